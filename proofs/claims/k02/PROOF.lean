import PyProof.Rows.All
import Wide.All
import OpenK.AllK
import Wide.FinOn
import HandS.CallSlots
import HandS.Defaults
import HandS.Dict
import HandS.Flow
import HandS.ForExc
import HandS.ForMost
import HandS.Head0
import HandS.Head1
import HandS.Head2
import HandS.HeadEnd
import HandS.HeadHook1
import HandS.HeadHook2
import HandS.IsInst
import HandS.Small
import HandS.TryMany
import HandS.TupAny
import HandS.TupMul
import HandS.Walk
import HandS.WideMore
import HandS.Zip
import KE.KStateDown
import PySem.Challenge.RW_keptlengths_k02_whole_lengths_of_texts
set_option Elab.async false
set_option linter.all false
set_option maxRecDepth 100000
set_option maxHeartbeats 4000000
/-! MP, part A: pure data as values, a small heap by index, what stands where, steps. -/
namespace Mp
open PySem PySem.Spec PyProof.Rows L2

/-- a value of the mirror: pure data, an object of the small heap, the well, a def of the module -/
inductive D where
  | p (x : PyData) | ref (i : Nat) | well (i : Nat) | fn (x : Str)

/-- what stands at an index of the small heap -/
inductive G where
  | lst (xs : List D) | dct (kvs : List (PyData × D)) | ins (c : Str) (fs : List (Str × D))

abbrev GH := List (Option G)
/-- the state of a mirror: the small heap and the well's own heap -/
structure S where
  g : GH
  w : GH

/-- what a piece of a mirror comes to -/
inductive R (α : Type) where
  | ok (a : α) (s : S) | ex (c : Str) (fs : List (Str × D)) (s : S) | bad

def R.bind {α β : Type} : R α → (α → S → R β) → R β
  | .ok a s, f => f a s
  | .ex c fs s, _ => .ex c fs s
  | .bad, _ => .bad

@[simp] theorem R.bind_ok {α β : Type} {a : α} {s : S} {f : α → S → R β} : (R.ok a s).bind f = f a s := rfl
@[simp] theorem R.bind_ex {α β : Type} {c : Str} {fs : List (Str × D)} {s : S} {f : α → S → R β} : (R.ex c fs s : R α).bind f = .ex c fs s := rfl
@[simp] theorem R.bind_bad {α β : Type} {f : α → S → R β} : (R.bad : R α).bind f = .bad := rfl

abbrev Env1 := List (Option D)
abbrev ME := Env1 → S → R D
abbrev MT := Env1 → S → R Bool
abbrev MA := Env1 → S → R (List D)
/-- a statement's end -/
inductive RS where
  | nx (e : Env1) (s : S) | ret (d : D) (s : S) | brk (e : Env1) (s : S) | cont (e : Env1) (s : S)
  | ex (c : Str) (fs : List (Str × D)) (e : Env1) (s : S) | bad
abbrev MS := Env1 → S → RS

/-! ### what stands for what -/
/-- the module: its written part, its names -/
structure Md where
  K : PySem.W.Frag
  mg : Str → Option Value

/-- a list that nobody changes any more -/
def FzL (K : PySem.W.Frag) (H : Hp) (a : Addr) (vs : List V) : Prop :=
  (∃ o, H a = some (.frz o (.lst vs))) ∨
    ∃ (o : Obj) (its : Array Value) (n : Nat), K.lookup a = some o ∧ o.cls = .type "list" ∧ o.dict = none ∧ o.data = .seq its n ∧ its.size ≤ sizeLine ∧ Vals vs its.toList
theorem FzL.sq {K : PySem.W.Frag} {H : Hp} {a : Addr} {vs : List V} (h : FzL K H a vs) : SqL K H a vs := by
  rcases h with ⟨o, h⟩ | h
  · exact .inl (.inr ⟨o, h⟩)
  · exact .inr h
/-- the pairs of a dict object; keys as data -/
def keyD : Key → PyData
  | .inl i => .int i
  | .inr x => .str x
def HOd : HO → List (PyData × V) → Prop
  | .dK kvs, l => l = kvs.map fun p => (keyD p.1, p.2)
  | .dT kvs, l => l = kvs.map fun p => (.tuple (p.1.map keyD), p.2)
  | _, _ => False
def FzD (H : Hp) (a : Addr) (l : List (PyData × V)) : Prop := ∃ o kvs, H a = some (.frz o (.dK kvs)) ∧ l = kvs.map fun p => (keyD p.1, p.2)

mutual
def RP (K : PySem.W.Frag) (H : Hp) : PyData → V → Prop
  | .none, v => v = .non
  | .bool b, v => v = .bl b
  | .int i, v => v = .int i
  | .str x, v => v = .str x
  | .tuple ps, v => ∃ a vs, v = .ref a ∧ SqT K H a vs ∧ RPs K H ps vs
  | .list ps, v => ∃ a vs, v = .ref a ∧ FzL K H a vs ∧ RPs K H ps vs
  | .dict kvs, v => ∃ a l, v = .ref a ∧ FzD H a l ∧ RPd K H kvs l
def RPs (K : PySem.W.Frag) (H : Hp) : List PyData → List V → Prop
  | [], vs => vs = []
  | p :: ps, vs => ∃ v r, vs = v :: r ∧ RP K H p v ∧ RPs K H ps r
def RPd (K : PySem.W.Frag) (H : Hp) : List (PyData × PyData) → List (PyData × V) → Prop
  | [], l => l = []
  | (k, p) :: ps, l => ∃ v r, l = (k, v) :: r ∧ RP K H p v ∧ RPd K H ps r
end

/-- what never changes stands -/
def Stay (H H' : Hp) : Prop := ∀ a, (∀ xs, H a = some (.tup xs) → H' a = some (.tup xs)) ∧ (∀ o u, H a = some (.frz o u) → H' a = some (.frz o u))
theorem Stay.sqT {K : PySem.W.Frag} {H H' : Hp} (st : Stay H H') {a : Addr} {vs : List V} (h : SqT K H a vs) : SqT K H' a vs := by
  rcases h with (h | ⟨o, h⟩) | h
  · exact .inl (.inl ((st a).1 _ h))
  · exact .inl (.inr ⟨o, (st a).2 _ _ h⟩)
  · exact .inr h
theorem Stay.fzL {K : PySem.W.Frag} {H H' : Hp} (st : Stay H H') {a : Addr} {vs : List V} (h : FzL K H a vs) : FzL K H' a vs := by
  rcases h with ⟨o, h⟩ | h
  · exact .inl ⟨o, (st a).2 _ _ h⟩
  · exact .inr h
mutual
theorem RP.stay {K : PySem.W.Frag} {H H' : Hp} (st : Stay H H') : ∀ {p : PyData} {v : V}, RP K H p v → RP K H' p v
  | .none, _, h => h
  | .bool _, _, h => h
  | .int _, _, h => h
  | .str _, _, h => h
  | .tuple ps, _, h => by
    simp only [RP] at h ⊢
    obtain ⟨a, vs, e, h1, h2⟩ := h
    exact ⟨a, vs, e, st.sqT h1, RPs.stay st h2⟩
  | .list ps, _, h => by
    simp only [RP] at h ⊢
    obtain ⟨a, vs, e, h1, h2⟩ := h
    exact ⟨a, vs, e, st.fzL h1, RPs.stay st h2⟩
  | .dict kvs, _, h => by
    simp only [RP] at h ⊢
    obtain ⟨a, l, e, ⟨o, u, h1, h3⟩, h2⟩ := h
    exact ⟨a, l, e, ⟨o, u, (st a).2 _ _ h1, h3⟩, RPd.stay st h2⟩
theorem RPs.stay {K : PySem.W.Frag} {H H' : Hp} (st : Stay H H') : ∀ {ps : List PyData} {vs : List V}, RPs K H ps vs → RPs K H' ps vs
  | [], _, h => by simp only [RPs] at h ⊢; exact h
  | p :: ps, _, h => by
    simp only [RPs] at h ⊢
    obtain ⟨v, r, e, h1, h2⟩ := h
    exact ⟨v, r, e, RP.stay st h1, RPs.stay st h2⟩
theorem RPd.stay {K : PySem.W.Frag} {H H' : Hp} (st : Stay H H') : ∀ {ps : List (PyData × PyData)} {l : List (PyData × V)}, RPd K H ps l → RPd K H' ps l
  | [], _, h => by simp only [RPd] at h ⊢; exact h
  | (k, p) :: ps, _, h => by
    simp only [RPd] at h ⊢
    obtain ⟨v, r, e, h1, h2⟩ := h
    exact ⟨v, r, e, RP.stay st h1, RPd.stay st h2⟩
end

/-- the configuration: the mirror's state, where its objects stand, the abstract heap -/
structure Cf where
  s : S
  m : List Addr
  o : List Addr
  H : Hp

/-- a value of the mirror stands for a value; m, o: where the small heap's and the well's objects stand -/
def RD (Y : Md) (m o : List Addr) (H : Hp) : D → V → Prop
  | .p x, v => RP Y.K H x v
  | .ref i, v => ∃ a, m[i]? = some a ∧ v = .ref a
  | .well i, v => ∃ a, o[i]? = some a ∧ v = .ref a
  | .fn x, v => ∃ f, v = .ref f ∧ Y.mg x = some (.ref f)
abbrev RDs (Y : Md) (m o : List Addr) (H : Hp) : List D → List V → Prop := Paired (RD Y m o H)
/-- an object of the small heap stands at an address -/
def RG (Y : Md) (m o : List Addr) (H : Hp) : G → Addr → Prop
  | .lst ds, a => ∃ vs, H a = some (.lst vs) ∧ RDs Y m o H ds vs
  | .dct kvs, a => ∃ u l, H a = some u ∧ Mut (some u) ∧ HOd u l ∧ Paired (fun (p : PyData × D) (q : PyData × V) => p.1 = q.1 ∧ RD Y m o H p.2 q.2) kvs l
  | .ins c fs, a => ∃ C dx fv, Y.mg c = some (.ref C) ∧ H a = some (.ins C dx fv) ∧ H dx = some (.own a) ∧ Paired (fun (p : Str × D) (q : Str × V) => p.1 = q.1 ∧ RD Y m o H p.2 q.2) fs fv

def Alive (g : GH) (m : List Addr) (a : Addr) : Prop := ∃ (i : Nat) (x : G), g[i]? = some (some x) ∧ m[i]? = some a
/-- what the mirror may change -/
def Cf.Own (c : Cf) (a : Addr) : Prop := Alive c.s.g c.m a ∨ Alive c.s.w c.o a

structure Rel (Y : Md) (c : Cf) : Prop where
  g : ∀ (i : Nat) (x : G), c.s.g[i]? = some (some x) → ∃ a, c.m[i]? = some a ∧ RG Y c.m c.o c.H x a
  w : ∀ (i : Nat) (x : G), c.s.w[i]? = some (some x) → ∃ a, c.o[i]? = some a ∧ RG Y c.o [] c.H x a
  gl : c.m.length = c.s.g.length
  wl : c.o.length = c.s.w.length
  gi : ∀ (i j : Nat) (x y : G) (a : Addr), c.s.g[i]? = some (some x) → c.s.g[j]? = some (some y) → c.m[i]? = some a → c.m[j]? = some a → i = j
  wi : ∀ (i j : Nat) (x y : G) (a : Addr), c.s.w[i]? = some (some x) → c.s.w[j]? = some (some y) → c.o[i]? = some a → c.o[j]? = some a → i = j
  gw : ∀ a, Alive c.s.g c.m a → Alive c.s.w c.o a → False

structure Stp (c c' : Cf) : Prop where
  m : ∀ (i : Nat) (a : Addr), c.m[i]? = some a → c'.m[i]? = some a
  o : ∀ (i : Nat) (a : Addr), c.o[i]? = some a → c'.o[i]? = some a
  own : ∀ a, c'.Own a → c.Own a ∨ c.H a = none
  ext : ∀ a u, c.H a = some u → ¬ c.Own a → c'.H a = some u

theorem Stp.refl {c : Cf} : Stp c c := ⟨fun _ _ h => h, fun _ _ h => h, fun _ h => .inl h, fun _ _ h _ => h⟩
theorem Stp.trans {c c1 c2 : Cf} (a : Stp c c1) (b : Stp c1 c2) : Stp c c2 where
  m := fun i x h => b.m i x (a.m i x h)
  o := fun i x h => b.o i x (a.o i x h)
  own := fun x h => by
    rcases b.own x h with h | h
    · exact a.own x h
    · by_cases q : c.Own x
      · exact .inl q
      · right
        cases e : c.H x with
        | none => rfl
        | some u => rw [a.ext x u e q] at h; cases h
  ext := fun x u h n => by
    refine b.ext x u (a.ext x u h n) fun q => ?_
    rcases a.own x q with q | q
    · exact n q
    · rw [h] at q; cases q

/-- what an owned address holds is no tuple, nothing frozen, nobody's own dict -/
def Movable : HO → Prop
  | .lst _ => True
  | .dK _ => True
  | .dT _ => True
  | .ins _ _ _ => True
  | .ext _ => True
  | .set _ _ => True
  | _ => False
theorem RG.movable {Y : Md} {m o : List Addr} {H : Hp} {x : G} {a : Addr} (h : RG Y m o H x a) : ∃ u, H a = some u ∧ Movable u := by
  cases x with
  | lst ds => obtain ⟨vs, e, _⟩ := h; exact ⟨_, e, trivial⟩
  | dct kvs =>
    obtain ⟨u, l, e, mu, _⟩ := h
    refine ⟨u, e, ?_⟩
    cases u <;> first | exact mu | trivial
  | ins c fs => obtain ⟨C, dx, fv, _, e, _⟩ := h; exact ⟨_, e, trivial⟩
theorem Rel.own {Y : Md} {c : Cf} (r : Rel Y c) {a : Addr} (h : c.Own a) : ∃ u, c.H a = some u ∧ Movable u := by
  rcases h with ⟨i, x, h1, h2⟩ | ⟨i, x, h1, h2⟩
  · obtain ⟨b, e, q⟩ := r.g i x h1
    rw [h2] at e; cases e
    exact q.movable
  · obtain ⟨b, e, q⟩ := r.w i x h1
    rw [h2] at e; cases e
    exact q.movable
theorem Rel.notOwn {Y : Md} {c : Cf} (r : Rel Y c) {a : Addr} {u : HO} (h : c.H a = some u) (n : ¬ Movable u) : ¬ c.Own a := fun q => by
  obtain ⟨u', e, mv⟩ := r.own q
  rw [h] at e; cases e
  exact n mv
theorem Rel.freshOwn {Y : Md} {c : Cf} (r : Rel Y c) {a : Addr} (h : c.H a = none) : ¬ c.Own a := fun q => by
  obtain ⟨u', e, mv⟩ := r.own q
  rw [h] at e; cases e
theorem Stp.stay {Y : Md} {c c' : Cf} (st : Stp c c') (r : Rel Y c) : Stay c.H c'.H := fun a =>
  ⟨fun xs h => st.ext a _ h (r.notOwn h fun z => z), fun o u h => st.ext a _ h (r.notOwn h fun z => z)⟩
theorem RD.up {Y : Md} {m o m' o' : List Addr} {H H' : Hp} (hm : ∀ (i : Nat) (a : Addr), m[i]? = some a → m'[i]? = some a) (ho : ∀ (i : Nat) (a : Addr), o[i]? = some a → o'[i]? = some a) (st : Stay H H') {d : D} {v : V} (h : RD Y m o H d v) : RD Y m' o' H' d v := by
  cases d with
  | p x => exact RP.stay st h
  | ref i => obtain ⟨a, e, rfl⟩ := h; exact ⟨a, hm _ _ e, rfl⟩
  | well i => obtain ⟨a, e, rfl⟩ := h; exact ⟨a, ho _ _ e, rfl⟩
  | fn x => exact h
theorem RDs.up {Y : Md} {m o m' o' : List Addr} {H H' : Hp} (hm : ∀ (i : Nat) (a : Addr), m[i]? = some a → m'[i]? = some a) (ho : ∀ (i : Nat) (a : Addr), o[i]? = some a → o'[i]? = some a) (st : Stay H H') {ds : List D} {vs : List V} (h : RDs Y m o H ds vs) : RDs Y m' o' H' ds vs :=
  Paired.mapP h fun _ _ q => RD.up hm ho st q
/-- an object that is not touched stays -/
theorem RG.up {Y : Md} {m o m' o' : List Addr} {H H' : Hp} (hm : ∀ (i : Nat) (a : Addr), m[i]? = some a → m'[i]? = some a) (ho : ∀ (i : Nat) (a : Addr), o[i]? = some a → o'[i]? = some a) (st : Stay H H')
    {x : G} {a : Addr} (h : RG Y m o H x a) (ha : ∀ u, H a = some u → H' a = some u) (hd : ∀ d, H d = some (.own a) → H' d = some (.own a)) : RG Y m' o' H' x a := by
  cases x with
  | lst ds => obtain ⟨vs, e, q⟩ := h; exact ⟨vs, ha _ e, RDs.up hm ho st q⟩
  | dct kvs => obtain ⟨u, l, e, mu, h1, q⟩ := h; exact ⟨u, l, ha _ e, mu, h1, Paired.mapP q fun _ _ z => ⟨z.1, RD.up hm ho st z.2⟩⟩
  | ins c fs => obtain ⟨C, dx, fv, h1, e, h2, q⟩ := h; exact ⟨C, dx, fv, h1, ha _ e, hd _ h2, Paired.mapP q fun _ _ z => ⟨z.1, RD.up hm ho st z.2⟩⟩

/-- a new object that the mirror does not hold as its own: a tuple, something frozen -/
def Cf.at (c : Cf) (t : Addr) (u : HO) : Cf := { c with H := upd c.H t u }
theorem upd_stay {H : Hp} {t : Addr} {u : HO} (n : H t = none) : ∀ a v, H a = some v → upd H t u a = some v := fun a v h => by
  rw [upd_ne (ne_of_none h n)]; exact h
theorem stay_of {H H' : Hp} (h : ∀ a v, H a = some v → H' a = some v) : Stay H H' := fun a => ⟨fun _ q => h _ _ q, fun _ _ q => h _ _ q⟩
theorem Rel.at {Y : Md} {c : Cf} (r : Rel Y c) {t : Addr} {u : HO} (n : c.H t = none) : Rel Y (c.at t u) where
  g := fun i x h => by
    obtain ⟨a, e, q⟩ := r.g i x h
    exact ⟨a, e, q.up (fun _ _ z => z) (fun _ _ z => z) (stay_of (upd_stay n)) (fun v z => upd_stay n a v z) (fun d z => upd_stay n d _ z)⟩
  w := fun i x h => by
    obtain ⟨a, e, q⟩ := r.w i x h
    exact ⟨a, e, q.up (fun _ _ z => z) (fun _ _ z => z) (stay_of (upd_stay n)) (fun v z => upd_stay n a v z) (fun d z => upd_stay n d _ z)⟩
  gl := r.gl
  wl := r.wl
  gi := r.gi
  wi := r.wi
  gw := r.gw
theorem Stp.at {c : Cf} {t : Addr} {u : HO} (n : c.H t = none) : Stp c (c.at t u) := ⟨fun _ _ h => h, fun _ _ h => h, fun _ h => .inl h, fun a v h _ => upd_stay n a v h⟩

/-- a new object of the mirror's own -/
def Cf.new (c : Cf) (t : Addr) (u : HO) (x : G) : Cf := ⟨{ c.s with g := c.s.g ++ [some x] }, c.m ++ [t], c.o, upd c.H t u⟩
theorem get_app {α : Type} {l r : List α} {i : Nat} {x : α} (h : l[i]? = some x) : (l ++ r)[i]? = some x := by
  have h1 : i < l.length := (List.getElem?_eq_some_iff.mp h).1
  rw [List.getElem?_append_left h1]; exact h
theorem get_app_one {α : Type} {l : List α} {y : α} {i : Nat} {x : α} (h : (l ++ [y])[i]? = some x) : l[i]? = some x ∨ (i = l.length ∧ x = y) := by
  by_cases h1 : i < l.length
  · rw [List.getElem?_append_left h1] at h; exact .inl h
  · rw [List.getElem?_append_right (by omega)] at h
    have h2 : i - l.length = 0 := by
      cases e : i - l.length with
      | zero => rfl
      | succ k => rw [e] at h; simp at h
    rw [h2] at h
    simp at h
    exact .inr ⟨by omega, h.symm⟩
theorem Rel.lt {Y : Md} {c : Cf} (r : Rel Y c) {i : Nat} {a : Addr} (h : c.m[i]? = some a) : i < c.s.g.length := by
  rw [← r.gl]; exact (List.getElem?_eq_some_iff.mp h).1
theorem Rel.new {Y : Md} {c : Cf} (r : Rel Y c) {t : Addr} {u : HO} {x : G} (n : c.H t = none) (hx : RG Y (c.m ++ [t]) c.o (upd c.H t u) x t) : Rel Y (c.new t u x) := by
  have hm : ∀ (i : Nat) (a : Addr), c.m[i]? = some a → (c.m ++ [t])[i]? = some a := fun i a h => get_app h
  have alive : ∀ (i : Nat) (y : G) (a : Addr), c.s.g[i]? = some (some y) → c.m[i]? = some a → a ≠ t := fun i y a h1 h2 z => by
    subst z
    exact r.freshOwn n (.inl ⟨i, y, h1, h2⟩)
  have aliveW : ∀ (i : Nat) (y : G) (a : Addr), c.s.w[i]? = some (some y) → c.o[i]? = some a → a ≠ t := fun i y a h1 h2 z => by
    subst z
    exact r.freshOwn n (.inr ⟨i, y, h1, h2⟩)
  have cas : ∀ (i : Nat) (y : G) (a : Addr), (c.s.g ++ [some x])[i]? = some (some y) → (c.m ++ [t])[i]? = some a → (c.s.g[i]? = some (some y) ∧ c.m[i]? = some a) ∨ (i = c.s.g.length ∧ a = t) := fun i y a h1 h2 => by
    rcases get_app_one h1 with h1 | ⟨e, _⟩
    · left
      rcases get_app_one h2 with h2 | ⟨e, _⟩
      · exact ⟨h1, h2⟩
      · have := (List.getElem?_eq_some_iff.mp h1).1
        rw [e, r.gl] at this; omega
    · right
      refine ⟨e, ?_⟩
      rcases get_app_one h2 with h2 | ⟨_, e2⟩
      · have := r.lt h2; omega
      · exact e2
  refine ⟨fun i y h => ?_, fun i y h => ?_, by simp [Cf.new, r.gl], r.wl, fun i j y z a h1 h2 h3 h4 => ?_, r.wi, fun a h1 h2 => ?_⟩
  · rcases get_app_one h with h | ⟨e, ey⟩
    · obtain ⟨a, e, q⟩ := r.g i y h
      exact ⟨a, get_app e, q.up hm (fun _ _ z => z) (stay_of (upd_stay n)) (fun v z => upd_stay n a v z) (fun d z => upd_stay n d _ z)⟩
    · cases ey
      refine ⟨t, ?_, hx⟩
      show (c.m ++ [t])[i]? = some t
      rw [e, ← r.gl]; simp
  · obtain ⟨a, e, q⟩ := r.w i y h
    exact ⟨a, e, q.up (fun _ _ z => z) (fun _ _ z => z) (stay_of (upd_stay n)) (fun v z => upd_stay n a v z) (fun d z => upd_stay n d _ z)⟩
  · rcases cas i y a h1 h3 with ⟨p1, p2⟩ | ⟨p1, p2⟩
    · rcases cas j z a h2 h4 with ⟨q1, q2⟩ | ⟨q1, q2⟩
      · exact r.gi i j y z a p1 q1 p2 q2
      · exact absurd q2 (alive i y a p1 p2)
    · rcases cas j z a h2 h4 with ⟨q1, q2⟩ | ⟨q1, q2⟩
      · exact absurd p2 (alive j z a q1 q2)
      · omega
  · obtain ⟨i, y, h1, h3⟩ := h1
    rcases cas i y a h1 h3 with ⟨p1, p2⟩ | ⟨p1, p2⟩
    · exact r.gw a ⟨i, y, p1, p2⟩ h2
    · obtain ⟨j, z, q1, q2⟩ := h2
      exact aliveW j z a q1 q2 p2
theorem Stp.new {Y : Md} {c : Cf} (r : Rel Y c) {t : Addr} {u : HO} {x : G} (n : c.H t = none) : Stp c (c.new t u x) where
  m := fun i a h => get_app h
  o := fun _ _ h => h
  own := fun a h => by
    rcases h with ⟨i, y, h1, h2⟩ | h
    · rcases get_app_one h2 with h2 | ⟨_, e⟩
      · rcases get_app_one h1 with h1 | ⟨e, _⟩
        · exact .inl (.inl ⟨i, y, h1, h2⟩)
        · have := r.lt h2; omega
      · subst e; exact .inr n
    · exact .inl (.inr h)
  ext := fun a v h _ => upd_stay n a v h

/-- an object of the mirror's own is changed -/
def Cf.put (c : Cf) (i : Nat) (a : Addr) (u : HO) (x : Option G) : Cf := ⟨{ c.s with g := c.s.g.set i x }, c.m, c.o, upd c.H a u⟩
theorem set_get {α : Type} {l : List α} {i j : Nat} {x y : α} (h : (l.set i x)[j]? = some y) : (j ≠ i ∧ l[j]? = some y) ∨ (j = i ∧ y = x) := by
  by_cases e : j = i
  · subst e
    have h1 : j < l.length := by
      have := (List.getElem?_eq_some_iff.mp h).1
      simpa using this
    rw [List.getElem?_set_self h1] at h
    exact .inr ⟨rfl, (Option.some.inj h).symm⟩
  · rw [List.getElem?_set_ne (Ne.symm e)] at h
    exact .inl ⟨e, h⟩
theorem Rel.put {Y : Md} {c : Cf} (r : Rel Y c) {i : Nat} {a : Addr} {u : HO} {x₀ : G} {x : Option G} (h0 : c.s.g[i]? = some (some x₀)) (ha : c.m[i]? = some a)
    (hx : ∀ y, x = some y → RG Y c.m c.o (upd c.H a u) y a) (hst : Stay c.H (upd c.H a u)) : Rel Y (c.put i a u x) := by
  have cas : ∀ (j : Nat) (y : G) (b : Addr), (c.s.g.set i x)[j]? = some (some y) → c.m[j]? = some b → (j ≠ i ∧ c.s.g[j]? = some (some y) ∧ b ≠ a) ∨ (j = i ∧ x = some y ∧ b = a) := fun j y b h1 h2 => by
    rcases set_get h1 with ⟨e, g1⟩ | ⟨e, g1⟩
    · exact .inl ⟨e, g1, fun z => by subst z; exact e (r.gi j i y x₀ b g1 h0 h2 ha)⟩
    · subst e
      rw [ha] at h2; cases h2
      exact .inr ⟨rfl, g1.symm, rfl⟩
  have keep : ∀ b, b ≠ a → ∀ v, c.H b = some v → upd c.H a u b = some v := fun b e v h => by rw [upd_ne e]; exact h
  have nown : ∀ (b d : Addr), c.H d = some (.own b) → upd c.H a u d = some (.own b) := fun b d h => by
    refine keep d (fun z => ?_) _ h
    subst z
    exact r.notOwn h (fun z => z) (.inl ⟨i, x₀, h0, ha⟩)
  refine ⟨fun j y h => ?_, fun j y h => ?_, by simp [Cf.put, r.gl], r.wl, fun j k y z b h1 h2 h3 h4 => ?_, r.wi, fun b h1 h2 => ?_⟩
  · rcases set_get h with ⟨e, g1⟩ | ⟨e, g1⟩
    · obtain ⟨b, e2, q⟩ := r.g j y g1
      refine ⟨b, e2, q.up (fun _ _ z => z) (fun _ _ z => z) hst (fun v z => keep b ?_ v z) (fun d z => nown b d z)⟩
      intro z; subst z
      exact e (r.gi j i y x₀ b g1 h0 e2 ha)
    · subst e
      exact ⟨a, ha, hx y g1.symm⟩
  · obtain ⟨b, e2, q⟩ := r.w j y h
    refine ⟨b, e2, q.up (fun _ _ z => z) (fun _ _ z => z) hst (fun v z => keep b ?_ v z) (fun d z => nown b d z)⟩
    intro z; subst z
    exact r.gw b ⟨i, x₀, h0, ha⟩ ⟨j, y, h, e2⟩
  · rcases cas j y b h1 h3 with ⟨p1, p2, p3⟩ | ⟨p1, p2, p3⟩
    · rcases cas k z b h2 h4 with ⟨q1, q2, q3⟩ | ⟨q1, q2, q3⟩
      · exact r.gi j k y z b p2 q2 h3 h4
      · exact absurd q3 p3
    · rcases cas k z b h2 h4 with ⟨q1, q2, q3⟩ | ⟨q1, q2, q3⟩
      · exact absurd p3 q3
      · omega
  · obtain ⟨j, y, h1, h3⟩ := h1
    rcases cas j y b h1 h3 with ⟨p1, p2, p3⟩ | ⟨p1, p2, p3⟩
    · exact r.gw b ⟨j, y, p2, h3⟩ h2
    · subst p3
      exact r.gw b ⟨i, x₀, h0, ha⟩ h2
theorem Stp.put {c : Cf} {i : Nat} {a : Addr} {u : HO} {x₀ : G} {x : Option G} (h0 : c.s.g[i]? = some (some x₀)) (ha : c.m[i]? = some a) : Stp c (c.put i a u x) where
  m := fun _ _ h => h
  o := fun _ _ h => h
  own := fun b h => by
    rcases h with ⟨j, y, h1, h2⟩ | h
    · rcases set_get h1 with ⟨e, g1⟩ | ⟨e, g1⟩
      · exact .inl (.inl ⟨j, y, g1, h2⟩)
      · subst e; exact .inl (.inl ⟨j, x₀, h0, h2⟩)
    · exact .inl (.inr h)
  ext := fun b v h n => by
    have e : b ≠ a := fun z => by subst z; exact n (.inl ⟨i, x₀, h0, ha⟩)
    show upd c.H a u b = some v
    rw [upd_ne e]; exact h
end Mp

/-! MP, part B: what a mirror says of a piece of syntax; names, constants, operators, tests, tuples, lists. -/
namespace Mp
open PySem PySem.Spec PyProof.Rows L2

/-- an exception: its class by name, its fields -/
def XR (Y : Md) (c : Cf) (x : Str) (fs : List (Str × D)) (cv : Value) (dx : Option Addr) : Prop :=
  ∃ C, cv = .ref C ∧ Y.mg x = some (.ref C) ∧ ((fs = [] ∧ dx = none) ∨
    ∃ d fv, dx = some d ∧ c.H d = some (.xd fv) ∧ Paired (fun (p : Str × D) (q : Str × V) => p.1 = q.1 ∧ RD Y c.m c.o c.H p.2 q.2) fs fv)

def Post {α β : Type} (Y : Md) (RA : Cf → α → β → Prop) (WE : Value → Option Addr → Hp → Prop) (c : Cf) (r : R α) (Q : β → Hp → Prop) : Prop :=
  match r with
  | .ok a s' => ∀ b c', c'.s = s' → Stp c c' → Rel Y c' → RA c' a b → Q b c'.H
  | .ex x fs s' => ∀ cv dx c', c'.s = s' → Stp c c' → Rel Y c' → XR Y c' x fs cv dx → WE cv dx c'.H
  | .bad => False

section
variable {α β γ δ : Type} {Y : Md} {RA : Cf → α → β → Prop} {RC : Cf → γ → δ → Prop} {WE : Value → Option Addr → Hp → Prop} {c c' : Cf}
theorem Post.step {r : R α} {Q : β → Hp → Prop} (h : Post Y RA WE c r Q) (st : Stp c c') : Post Y RA WE c' r Q := by
  cases r with
  | ok a s' => exact fun b c2 e s2 r2 ra => h b c2 e (st.trans s2) r2 ra
  | ex x fs s' => exact fun cv dx c2 e s2 r2 xr => h cv dx c2 e (st.trans s2) r2 xr
  | bad => exact h
theorem Post.mono {r : R α} {Q Q' : β → Hp → Prop} (h : Post Y RA WE c r Q) (i : ∀ b H, Q b H → Q' b H) : Post Y RA WE c r Q' := by
  cases r with
  | ok a s' => exact fun b c2 e s2 r2 ra => i _ _ (h b c2 e s2 r2 ra)
  | ex x fs s' => exact h
  | bad => exact h
/-- one piece, then what follows -/
theorem Post.bind {ra : R α} {f : α → S → R γ} {Q : δ → Hp → Prop} {Q1 : β → Hp → Prop} (h : Post Y RC WE c (ra.bind f) Q)
    (k : ∀ a b c1, Stp c c1 → Rel Y c1 → RA c1 a b → Post Y RC WE c1 (f a c1.s) Q → Q1 b c1.H) : Post Y RA WE c ra Q1 := by
  cases ra with
  | ok a s' => exact fun b c2 e s2 r2 ra => k a b c2 s2 r2 ra (by rw [e]; exact h.step s2)
  | ex x fs s' => exact h
  | bad => exact h
theorem Post.here {a : α} {b : β} {Q : β → Hp → Prop} (h : Post Y RA WE c (.ok a c.s) Q) (r : Rel Y c) (ra : RA c a b) : Q b c.H := h b c rfl Stp.refl r ra
end

abbrev yx (X : Cx) : Md := ⟨X.K, X.mg⟩
abbrev rd (Y : Md) : Cf → D → V → Prop := fun c d v => RD Y c.m c.o c.H d v
abbrev rds (Y : Md) : Cf → List D → List V → Prop := fun c d v => RDs Y c.m c.o c.H d v
abbrev rb : Cf → Bool → Bool → Prop := fun _ a b => a = b
theorem RD.step {Y : Md} {c c' : Cf} (r : Rel Y c) (st : Stp c c') {d : D} {v : V} (h : RD Y c.m c.o c.H d v) : RD Y c'.m c'.o c'.H d v := h.up st.m st.o (st.stay r)
theorem RDs.step {Y : Md} {c c' : Cf} (r : Rel Y c) (st : Stp c c') {d : List D} {v : List V} (h : RDs Y c.m c.o c.H d v) : RDs Y c'.m c'.o c'.H d v := RDs.up st.m st.o (st.stay r) h
/-- the names -/
def RE (Y : Md) (c : Cf) (env : Env1) (σ : L2.St) : Prop := env.length = σ.length ∧ ∀ (i : Nat) (d : D), env[i]? = some (some d) → ∃ v, σ[i]? = some (some v) ∧ RD Y c.m c.o c.H d v
theorem RE.step {Y : Md} {c c' : Cf} (r : Rel Y c) (st : Stp c c') {env : Env1} {σ : L2.St} (h : RE Y c env σ) : RE Y c' env σ :=
  ⟨h.1, fun i d e => let ⟨v, e1, q⟩ := h.2 i d e; ⟨v, e1, q.step r st⟩⟩
theorem RE.set {Y : Md} {c : Cf} {env : Env1} {σ : L2.St} (h : RE Y c env σ) (i : Nat) {d : D} {v : V} (q : RD Y c.m c.o c.H d v) : RE Y c (env.set i (some d)) (σ.set i (some v)) := by
  refine ⟨by simp [h.1], fun j d' ed => ?_⟩
  rcases set_get ed with ⟨ne, e⟩ | ⟨rfl, e⟩
  · obtain ⟨v', e1, q1⟩ := h.2 j d' e
    exact ⟨v', by rw [List.getElem?_set_ne (Ne.symm ne)]; exact e1, q1⟩
  · cases e
    have hl : j < σ.length := by
      rw [← h.1]
      have := (List.getElem?_eq_some_iff.mp ed).1
      simpa using this
    exact ⟨v, by rw [List.getElem?_set_self hl], q⟩
theorem RE.unset {Y : Md} {c : Cf} {env : Env1} {σ : L2.St} (h : RE Y c env σ) (i : Nat) : RE Y c (env.set i none) (σ.set i none) := by
  refine ⟨by simp [h.1], fun j d' ed => ?_⟩
  rcases set_get ed with ⟨ne, e⟩ | ⟨rfl, e⟩
  · obtain ⟨v', e1, q1⟩ := h.2 j d' e
    exact ⟨v', by rw [List.getElem?_set_ne (Ne.symm ne)]; exact e1, q1⟩
  · cases e

/-- what a mirror says -/
def LE (X : Cx) (W : WX) (m : ME) : TE := fun σ H Q => ∃ env c, c.H = H ∧ RE (yx X) c env σ ∧ Rel (yx X) c ∧ Post (yx X) (rd (yx X)) (fun cv dx H' => W cv dx σ H') c (m env c.s) Q
def LT (X : Cx) (W : WX) (m : MT) : TT := fun σ H Q => ∃ env c, c.H = H ∧ RE (yx X) c env σ ∧ Rel (yx X) c ∧ Post (yx X) rb (fun cv dx H' => W cv dx σ H') c (m env c.s) Q
def LA (X : Cx) (W : WX) (m : MA) : TA := fun σ H Q => ∃ env c, c.H = H ∧ RE (yx X) c env σ ∧ Rel (yx X) c ∧ Post (yx X) (rds (yx X)) (fun cv dx H' => W cv dx σ H') c (m env c.s) Q

theorem _root_.L2.PE.imp {X : Cx} {e : Expr} {t t' : TE} (h : PE X e t) (i : ∀ σ H Q, t' σ H Q → t σ H Q) : PE X e t' := ⟨fun pins s σ H Q I q => h.run pins s σ H Q I (i σ H Q q)⟩
theorem _root_.L2.PT.imp {X : Cx} {e : Expr} {t t' : TT} (h : PT X e t) (i : ∀ σ H Q, t' σ H Q → t σ H Q) : PT X e t' := ⟨fun pins s σ H Q I q => h.run pins s σ H Q I (i σ H Q q)⟩
theorem _root_.L2.PW.imp {X : Cx} {e : Expr} {t t' : TT} (h : PW X e t) (i : ∀ σ H Q, t' σ H Q → t σ H Q) : PW X e t' := ⟨fun wh pins s σ H Q I q => h.run wh pins s σ H Q I (i σ H Q q)⟩
theorem _root_.L2.PA.imp {X : Cx} {e : List Expr} {t t' : TA} (h : PA X e t) (i : ∀ σ H Q, t' σ H Q → t σ H Q) : PA X e t' := ⟨fun pos pins s σ H Q I q => h.run pos pins s σ H Q I (i σ H Q q)⟩
theorem _root_.L2.PS.imp {X : Cx} {e : Stmt} {t t' : TS} (h : PS X e t) (i : ∀ D σ H, t' D σ H → t D σ H) : PS X e t' := ⟨fun pins s σ H D I q => h.run pins s σ H D I (i D σ H q)⟩
theorem _root_.L2.PSs.imp {X : Cx} {e : List Stmt} {t t' : TS} (h : PSs X e t) (i : ∀ D σ H, t' D σ H → t D σ H) : PSs X e t' := ⟨fun pins s σ H D I q => h.run pins s σ H D I (i D σ H q)⟩

section
variable {X : Cx} {W : WX} {pos : Pos} {a b : Expr} {ma mb : ME}

/-! ### names, constants -/
def mVar (i : Nat) : ME := fun env s => match env[i]? with
  | some (some d) => .ok d s
  | _ => .bad
def mK (x : PyData) : ME := fun _ s => .ok (.p x) s
theorem e_var {i : Nat} {x : Str} (hN : X.N[i]? = some x := by rfl) (hv : Vis X.env.scope x := by first | exact Or.inl rfl | exact Or.inr (Or.inl rfl) | exact Or.inr (Or.inr rfl)) (hd : (x == ("__debug__" : Str)) = false := by decide)
    (hcd : (x == ("__classdict__" : Str)) = false := by decide) : PE X (.Name x pos) (LE X W (mVar i)) := by
  refine (pe_var (i := i) hN hv hd hcd).imp fun σ H Q ⟨env, c, e, re, r, h⟩ => ?_
  subst e
  unfold mVar at h
  split at h
  · rename_i d ed
    obtain ⟨v, e1, q⟩ := re.2 i d ed
    exact ⟨v, e1, h.here r q⟩
  · exact h.elim
theorem e_of_tC {e : Expr} {v : V} {x : PyData} (h : PE X e (tC v)) (q : ∀ H, RP X.K H x v) : PE X e (LE X W (mK x)) :=
  h.imp fun σ H Q ⟨env, c, e, re, r, h⟩ => by subst e; exact Post.here (Y := yx X) (RA := rd (yx X)) (a := D.p x) (b := v) h r (q c.H)
theorem e_int {i : Int} {j : Nat} : PE X (.Constant (.int i) j pos) (LE X W (mK (.int i))) := e_of_tC pe_int fun _ => by simp [RP]
theorem e_bool {i : Bool} {j : Nat} : PE X (.Constant (.bool i) j pos) (LE X W (mK (.bool i))) := e_of_tC pe_bl fun _ => by simp [RP]
theorem e_none {j : Nat} : PE X (.Constant .none j pos) (LE X W (mK .none)) := e_of_tC pe_non fun _ => by simp [RP]
theorem e_str {x : Str} {j : Nat} : PE X (.Constant (.str x) j pos) (LE X W (mK (.str x))) := e_of_tC pe_str fun _ => by simp [RP]
/-- a constant of the module -/
theorem e_glob {x : Str} {v : V} {u : Value} {y : PyData} (hg : Gl X x) (hm : X.mg x = some u) (r : RelV v u) (q : ∀ H, RP X.K H y v) (hd : (x == ("__debug__" : Str)) = false := by decide) : PE X (.Name x pos) (LE X W (mK y)) := e_of_tC (pe_glob hg hm r hd) q

/-! ### operators by values -/
def Link2 (Y : Md) (f : D → D → S → R D) (r : R2) : Prop := ∀ WE c d1 d2 v1 v2 Q, Rel Y c → rd Y c d1 v1 → rd Y c d2 v2 → Post Y (rd Y) WE c (f d1 d2 c.s) Q → r v1 v2 c.H Q
def Link1 (Y : Md) (f : D → S → R D) (r : V → Hp → VK → Prop) : Prop := ∀ WE c d1 v1 Q, Rel Y c → rd Y c d1 v1 → Post Y (rd Y) WE c (f d1 c.s) Q → r v1 c.H Q
/-- a two-place operation of the model does what f says -/
def Op2 (X : Cx) (g : Value → Value → Sem Value) (f : D → D → S → R D) : Prop := ∃ r, OpR X g r ∧ Link2 (yx X) f r
def Op1 (X : Cx) (g : Value → Sem Value) (f : D → S → R D) : Prop := ∃ r, UnR X g r ∧ Link1 (yx X) f r
def mBin (f : D → D → S → R D) (ma mb : ME) : ME := fun env s => (ma env s).bind fun d1 s1 => (mb env s1).bind fun d2 s2 => f d1 d2 s2
def mUn (f : D → S → R D) (ma : ME) : ME := fun env s => (ma env s).bind fun d1 s1 => f d1 s1
theorem tOp_of {r : R2} {f : D → D → S → R D} (hl : Link2 (yx X) f r) {σ : L2.St} {H : Hp} {Q : VK} (h : LE X W (mBin f ma mb) σ H Q) : tOp r (LE X W ma) (LE X W mb) σ H Q := by
  obtain ⟨env, c, e, re, rr, h⟩ := h
  refine ⟨env, c, e, re, rr, h.bind fun d1 v1 c1 s1 r1 q1 h1 => ⟨env, c1, rfl, re.step rr s1, r1, h1.bind fun d2 v2 c2 s2 r2 q2 h2 => ?_⟩⟩
  exact hl _ c2 d1 d2 v1 v2 Q r2 (q1.step r1 s2) q2 h2
theorem e_bin {op : Operator} {f : D → D → S → R D} (ho : Op2 X (binaryOp op) f) (ha : PE X a (LE X W ma)) (hb : PE X b (LE X W mb)) : PE X (.BinOp a op b pos) (LE X W (mBin f ma mb)) := by
  obtain ⟨r, hr, hl⟩ := ho
  exact (pe_op hr ha hb).imp fun σ H Q h => tOp_of hl h
theorem e_cmp {op : CmpOp} {f : D → D → S → R D} (ho : Op2 X (compareOp op) f) (ha : PE X a (LE X W ma)) (hb : PE X b (LE X W mb)) (hm : behindInMarks op b = false) : PE X (.Compare a [op] [b] pos) (LE X W (mBin f ma mb)) := by
  obtain ⟨r, hr, hl⟩ := ho
  exact (pe_cmpR hr ha hb hm).imp fun σ H Q h => tOp_of hl h
theorem e_un {op : UnaryOp} {f : D → S → R D} (ho : Op1 X (unaryOp op) f) (ha : PE X a (LE X W ma)) : PE X (.UnaryOp op a pos) (LE X W (mUn f ma)) := by
  obtain ⟨r, hr, hl⟩ := ho
  refine (pe_un hr ha).imp fun σ H Q ⟨env, c, e, re, rr, h⟩ => ?_
  exact ⟨env, c, e, re, rr, h.bind fun d1 v1 c1 s1 r1 q1 h1 => hl _ c1 d1 v1 Q r1 q1 h1⟩

/-! ### truth -/
def sizeOk (n : Nat) : Bool := decide (n ≤ sizeLine)
def ptruth : PyData → Option Bool
  | .none => some false
  | .bool b => some b
  | .int i => some (i != 0)
  | .str x => if sizeOk x.length then some (x.length != 0) else none
  | .tuple xs => some (!xs.isEmpty)
  | .list xs => some (!xs.isEmpty)
  | _ => none
def truth (d : D) (s : S) : R Bool := match d with
  | .p x => match ptruth x with
    | some b => .ok b s
    | none => .bad
  | .ref i => match s.g[i]? with
    | some (some (.lst xs)) => .ok (!xs.isEmpty) s
    | _ => .bad
  | _ => .bad
theorem RPs.isEmpty {K : PySem.W.Frag} {H : Hp} {ps : List PyData} {vs : List V} (h : RPs K H ps vs) : ps.isEmpty = vs.isEmpty := by
  cases ps with
  | nil => simp only [RPs] at h; subst h; rfl
  | cons p ps => simp only [RPs] at h; obtain ⟨v, r, e, _⟩ := h; rw [e]; rfl
theorem RPs.length {K : PySem.W.Frag} {H : Hp} : ∀ {ps : List PyData} {vs : List V}, RPs K H ps vs → ps.length = vs.length
  | [], _, h => by simp only [RPs] at h; subst h; rfl
  | p :: ps, _, h => by simp only [RPs] at h; obtain ⟨v, r, e, _, h⟩ := h; rw [e]; simp [RPs.length h]
theorem Paired.isEmpty {α β : Type} {F : α → β → Prop} {l₁ : List α} {l₂ : List β} (h : Paired F l₁ l₂) : l₁.isEmpty = l₂.isEmpty := by
  cases h <;> rfl
theorem ptruth_ok {K : PySem.W.Frag} {H : Hp} {x : PyData} {v : V} {b : Bool} (h : RP K H x v) (e : ptruth x = some b) : TruV K v H b := by
  cases x with
  | none => simp only [RP] at h; subst h; simp [ptruth] at e; subst e; rfl
  | bool k => simp only [RP] at h; subst h; simp [ptruth] at e; subst e; rfl
  | int i => simp only [RP] at h; subst h; simp [ptruth] at e; subst e; rfl
  | str z =>
    simp only [RP] at h; subst h
    simp only [ptruth] at e
    split at e
    · rename_i hs
      cases e
      refine ⟨of_decide_eq_true hs, ?_⟩
      cases z.length with
      | zero => rfl
      | succ n =>
        have h1 : ((n + 1 : Nat) != 0) = true := by simp
        have h2 : (((n + 1 : Nat) : Int) != 0) = true := by
          rw [bne_iff_ne]; intro q; omega
        rw [h1, h2]
    · cases e
  | tuple xs =>
    simp only [RP] at h; obtain ⟨p, vs, rfl, h1, h2⟩ := h
    simp only [ptruth, Option.some.injEq] at e; subst e
    exact .inr (.inl ⟨vs, h1, by have := h2.isEmpty; simp [this]⟩)
  | list xs =>
    simp only [RP] at h; obtain ⟨p, vs, rfl, h1, h2⟩ := h
    simp only [ptruth, Option.some.injEq] at e; subst e
    exact .inl ⟨vs, h1.sq, by have := h2.isEmpty; simp [this]⟩
  | dict kvs => simp [ptruth] at e
theorem truth_ok {Y : Md} {WE : Value → Option Addr → Hp → Prop} {c : Cf} {d : D} {v : V} {Q : Bool → Hp → Prop} (r : Rel Y c) (q : RD Y c.m c.o c.H d v) (h : Post Y rb WE c (truth d c.s) Q) : ∃ k, TruV Y.K v c.H k ∧ Q k c.H := by
  unfold truth at h
  cases d with
  | p x =>
    simp only at h
    cases e : ptruth x with
    | none => rw [e] at h; exact h.elim
    | some b => rw [e] at h; exact ⟨b, ptruth_ok q e, h.here r rfl⟩
  | ref i =>
    simp only at h
    split at h
    · rename_i xs e
      obtain ⟨p, e1, vs, e2, q2⟩ := r.g i _ e
      obtain ⟨p', e1', rfl⟩ := q
      rw [e1] at e1'; cases e1'
      exact ⟨!xs.isEmpty, .inl ⟨vs, SqL.of e2, by rw [Paired.isEmpty q2]⟩, h.here r rfl⟩
    · exact h.elim
  | well i => exact h.elim
  | fn x => exact h.elim
def mTru (ma : ME) : MT := fun env s => (ma env s).bind truth
theorem t_tru (ha : PE X a (LE X W ma)) (he : ∀ whole, isTrue a X.env whole = (do let v ← whole; standAt a.pos; holding [v] (truthy v)) := by intro _; rfl) : PT X a (LT X W (mTru ma)) := by
  refine (pt_truth ha he).imp fun σ H Q ⟨env, c, e, re, rr, h⟩ => ?_
  exact ⟨env, c, e, re, rr, h.bind fun d v c1 s1 r1 q1 h1 => truth_ok r1 q1 h1⟩
/-- a comparison as a test -/
def asB (d : D) (s : S) : R Bool := match d with
  | .p (.bool b) => .ok b s
  | _ => .bad
def mTest (ma : ME) : MT := fun env s => (ma env s).bind asB
theorem asB_ok {Y : Md} {WE : Value → Option Addr → Hp → Prop} {c : Cf} {d : D} {v : V} {Q : Bool → Hp → Prop} (r : Rel Y c) (q : RD Y c.m c.o c.H d v) (h : Post Y rb WE c (asB d c.s) Q) : ∃ k, v = .bl k ∧ Q k c.H := by
  unfold asB at h
  split at h
  · rename_i b
    exact ⟨b, by simpa [RD, RP] using q, h.here r rfl⟩
  · exact h.elim
theorem R.bind_assoc {α β γ : Type} (r : R α) (f : α → S → R β) (g : β → S → R γ) : (r.bind f).bind g = r.bind fun a s => (f a s).bind g := by
  cases r <;> rfl
theorem t_cmp {op : CmpOp} {f : D → D → S → R D} (ho : Op2 X (compareOp op) f) (ha : PE X a (LE X W ma)) (hb : PE X b (LE X W mb)) (hm : behindInMarks op b = false) : PT X (.Compare a [op] [b] pos) (LT X W (mTest (mBin f ma mb))) := by
  obtain ⟨r, hr, hl⟩ := ho
  refine (pt_cmpR hr ha hb hm).imp fun σ H Q h => ?_
  obtain ⟨env, c, e, re, rr, h⟩ := h
  exact tOp_of hl ⟨env, c, e, re, rr, h.bind fun d v c1 s1 r1 q1 h1 => asB_ok r1 q1 h1⟩

/-! ### and, or, not; a if t else b -/
variable {ta tb : MT} {rest : List Expr}
def mAnd (ta tb : MT) : MT := fun env s => (ta env s).bind fun b s1 => if b then tb env s1 else .ok false s1
def mOr (ta tb : MT) : MT := fun env s => (ta env s).bind fun b s1 => if b then .ok true s1 else tb env s1
def mNot (ta : MT) : MT := fun env s => (ta env s).bind fun b s1 => .ok (!b) s1
theorem w_and1 (ha : PT X a (LT X W ta)) : PW X (.BoolOp .And [a] pos) (LT X W ta) := pw_and1 ha
theorem w_or1 (ha : PT X a (LT X W ta)) : PW X (.BoolOp .Or [a] pos) (LT X W ta) := pw_or1 ha
theorem w_and (ha : PT X a (LT X W ta)) (hb : PW X (.BoolOp .And (b :: rest) pos) (LT X W tb)) : PW X (.BoolOp .And (a :: b :: rest) pos) (LT X W (mAnd ta tb)) := by
  refine (pw_and ha hb).imp fun σ H Q ⟨env, c, e, re, rr, h⟩ => ⟨env, c, e, re, rr, h.bind fun d v c1 s1 r1 q1 h1 => ?_⟩
  cases q1
  cases d with
  | true => exact iteT ⟨env, c1, rfl, re.step rr s1, r1, h1⟩
  | false => exact iteF (h1.here r1 rfl)
theorem w_or (ha : PT X a (LT X W ta)) (hb : PW X (.BoolOp .Or (b :: rest) pos) (LT X W tb)) : PW X (.BoolOp .Or (a :: b :: rest) pos) (LT X W (mOr ta tb)) := by
  refine (pw_or ha hb).imp fun σ H Q ⟨env, c, e, re, rr, h⟩ => ⟨env, c, e, re, rr, h.bind fun d v c1 s1 r1 q1 h1 => ?_⟩
  cases q1
  cases d with
  | true => exact iteT (h1.here r1 rfl)
  | false => exact iteF ⟨env, c1, rfl, re.step rr s1, r1, h1⟩
theorem t_w {e : Expr} (h : PW X e (LT X W ta)) : PT X e (LT X W ta) := h.pt
theorem t_not (ha : PT X a (LT X W ta)) : PT X (.UnaryOp .Not a pos) (LT X W (mNot ta)) := by
  refine (pt_not ha).imp fun σ H Q ⟨env, c, e, re, rr, h⟩ => ⟨env, c, e, re, rr, h.bind fun d v c1 s1 r1 q1 h1 => ?_⟩
  cases q1
  exact h1.here r1 rfl
/-- as values, by truth -/
def mAndV (ma mb : ME) : ME := fun env s => (ma env s).bind fun d s1 => (truth d s1).bind fun b s2 => if b then mb env s2 else .ok d s2
def mOrV (ma mb : ME) : ME := fun env s => (ma env s).bind fun d s1 => (truth d s1).bind fun b s2 => if b then .ok d s2 else mb env s2
def mNotV (ma : ME) : ME := fun env s => (ma env s).bind fun d s1 => (truth d s1).bind fun b s2 => .ok (.p (.bool (!b))) s2
theorem e_one {op : BoolOp} (ha : PE X a (LE X W ma)) : PE X (.BoolOp op [a] pos) (LE X W ma) := pe_one ha
theorem truth_st {d : D} {s s' : S} {b : Bool} (h : truth d s = .ok b s') : s' = s := by
  unfold truth at h
  split at h
  · split at h
    · cases h; rfl
    · cases h
  · split at h
    · cases h; rfl
    · cases h
  · cases h
theorem truth_noex {d : D} {s s' : S} {x : Str} {fs : List (Str × D)} : truth d s ≠ .ex x fs s' := by
  unfold truth
  intro h
  split at h
  · split at h <;> cases h
  · split at h <;> cases h
  · cases h
/-- truth, then what follows -/
theorem truth_then {γ δ : Type} {Y : Md} {RC : Cf → γ → δ → Prop} {WE : Value → Option Addr → Hp → Prop} {c : Cf} {d : D} {v : V} {f : Bool → S → R γ} {Q : δ → Hp → Prop} (r : Rel Y c) (q : RD Y c.m c.o c.H d v)
    (h : Post Y RC WE c ((truth d c.s).bind f) Q) : ∃ k, TruV Y.K v c.H k ∧ Post Y RC WE c (f k c.s) Q := by
  cases e : truth d c.s with
  | ok b s' =>
    have es := truth_st e
    subst es
    obtain ⟨k, h1, h2⟩ := truth_ok (Q := fun k _ => k = b) (WE := WE) r q (by rw [e]; intro k c' _ _ _ z; exact z.symm)
    subst h2
    rw [e] at h
    exact ⟨k, h1, h⟩
  | ex x fs s' => exact absurd e truth_noex
  | bad => rw [e] at h; exact h.elim
theorem e_and (ha : PE X a (LE X W ma)) (hb : PE X (.BoolOp .And (b :: rest) pos) (LE X W mb)) : PE X (.BoolOp .And (a :: b :: rest) pos) (LE X W (mAndV ma mb)) := by
  refine (pe_andT ha hb).imp fun σ H Q ⟨env, c, e, re, rr, h⟩ => ⟨env, c, e, re, rr, h.bind fun d v c1 s1 r1 q1 h1 => ?_⟩
  obtain ⟨k, h2, h3⟩ := truth_then r1 q1 h1
  refine ⟨k, h2, ?_⟩
  cases k with
  | true => exact iteT ⟨env, c1, rfl, re.step rr s1, r1, h3⟩
  | false => exact iteF (h3.here r1 q1)
theorem e_or (ha : PE X a (LE X W ma)) (hb : PE X (.BoolOp .Or (b :: rest) pos) (LE X W mb)) : PE X (.BoolOp .Or (a :: b :: rest) pos) (LE X W (mOrV ma mb)) := by
  refine (pe_orT ha hb).imp fun σ H Q ⟨env, c, e, re, rr, h⟩ => ⟨env, c, e, re, rr, h.bind fun d v c1 s1 r1 q1 h1 => ?_⟩
  obtain ⟨k, h2, h3⟩ := truth_then r1 q1 h1
  refine ⟨k, h2, ?_⟩
  cases k with
  | true => exact iteT (h3.here r1 q1)
  | false => exact iteF ⟨env, c1, rfl, re.step rr s1, r1, h3⟩
theorem e_not (ha : PE X a (LE X W ma)) : PE X (.UnaryOp .Not a pos) (LE X W (mNotV ma)) := by
  refine (pe_notT ha).imp fun σ H Q ⟨env, c, e, re, rr, h⟩ => ⟨env, c, e, re, rr, h.bind fun d v c1 s1 r1 q1 h1 => ?_⟩
  obtain ⟨k, h2, h3⟩ := truth_then r1 q1 h1
  exact ⟨k, h2, h3.here r1 (by simp [RD, RP])⟩
def mIf (t : MT) (ma mb : ME) : ME := fun env s => (t env s).bind fun b s1 => if b then ma env s1 else mb env s1
theorem e_if {t : Expr} {mt : MT} (ht : PT X t (LT X W mt)) (ha : PE X a (LE X W ma)) (hb : PE X b (LE X W mb)) : PE X (.IfExp t a b pos) (LE X W (mIf mt ma mb)) := by
  refine (pe_ifExp ht ha hb).imp fun σ H Q ⟨env, c, e, re, rr, h⟩ => ⟨env, c, e, re, rr, h.bind fun d v c1 s1 r1 q1 h1 => ?_⟩
  cases q1
  cases d with
  | true => exact iteT ⟨env, c1, rfl, re.step rr s1, r1, h1⟩
  | false => exact iteF ⟨env, c1, rfl, re.step rr s1, r1, h1⟩

/-! ### arguments, tuples, lists -/
variable {es : List Expr} {ms : MA}
def mNil : MA := fun _ s => .ok [] s
def mCons (ma : ME) (ms : MA) : MA := fun env s => (ma env s).bind fun d s1 => (ms env s1).bind fun ds s2 => .ok (d :: ds) s2
theorem a_nil : PA X [] (LA X W mNil) := pa_nil.imp fun σ H Q ⟨env, c, e, re, rr, h⟩ => by subst e; exact Post.here (Y := yx X) (RA := rds (yx X)) (a := []) (b := []) h rr .nil
theorem a_cons (ha : PE X a (LE X W ma)) (hs : PA X es (LA X W ms)) (hst : starEach (a :: es) X.env = (false, eval a X.env) :: starEach es X.env := by rfl) : PA X (a :: es) (LA X W (mCons ma ms)) := by
  refine (pa_cons ha hs hst).imp fun σ H Q ⟨env, c, e, re, rr, h⟩ => ⟨env, c, e, re, rr, h.bind fun d v c1 s1 r1 q1 h1 => ⟨env, c1, rfl, re.step rr s1, r1, h1.bind fun ds vs c2 s2 r2 q2 h2 => ?_⟩⟩
  exact h2.here r2 (.cons (q1.step r1 s2) q2)
/-- all of them pure data -/
def allP : List D → Option (List PyData)
  | [] => some []
  | .p x :: ds => (allP ds).map (x :: ·)
  | _ :: _ => none
theorem allP_ok {Y : Md} {m o : List Addr} {H : Hp} : ∀ {ds : List D} {vs : List V} {ps : List PyData}, RDs Y m o H ds vs → allP ds = some ps → RPs Y.K H ps vs
  | [], _, ps, .nil, e => by simp [allP] at e; subst e; simp [RPs]
  | .p x :: ds, _, ps, .cons q r, e => by
    simp only [allP, Option.map_eq_some_iff] at e
    obtain ⟨ps', e1, rfl⟩ := e
    simp only [RPs]
    exact ⟨_, _, rfl, q, allP_ok r e1⟩
  | .ref _ :: _, _, _, .cons _ _, e => by simp [allP] at e
  | .well _ :: _, _, _, .cons _ _, e => by simp [allP] at e
  | .fn _ :: _, _, _, .cons _ _, e => by simp [allP] at e
theorem allP_length : ∀ {ds : List D} {ps : List PyData}, allP ds = some ps → ps.length = ds.length
  | [], ps, e => by simp [allP] at e; subst e; rfl
  | .p x :: ds, ps, e => by
    simp only [allP, Option.map_eq_some_iff] at e
    obtain ⟨ps', e1, rfl⟩ := e
    simp [allP_length e1]
  | .ref _ :: _, _, e => by simp [allP] at e
  | .well _ :: _, _, e => by simp [allP] at e
  | .fn _ :: _, _, e => by simp [allP] at e
/-- a new tuple comes -/
theorem Post.tup {Y : Md} {WE : Value → Option Addr → Hp → Prop} {c : Cf} {ps : List PyData} {vs : List V} {Q : VK} {t : Addr} (h : Post Y (rd Y) WE c (.ok (.p (.tuple ps)) c.s) Q) (r : Rel Y c) (q : RPs Y.K c.H ps vs) (n : c.H t = none) : Q (.ref t) (upd c.H t (.tup vs)) := by
  refine h (.ref t) (c.at t (.tup vs)) rfl (Stp.at n) (r.at n) ?_
  show RP Y.K (upd c.H t (.tup vs)) (.tuple ps) (.ref t)
  simp only [RP]
  exact ⟨t, vs, rfl, SqT.of upd_same, RPs.stay (stay_of (upd_stay n)) q⟩
/-- a new frozen list comes: the object o stands there for good -/
def mTup (ms : MA) : ME := fun env s => (ms env s).bind fun ds s1 => match allP ds with
  | some ps => if sizeOk ps.length then .ok (.p (.tuple ps)) s1 else .bad
  | none => .bad
theorem e_tup {k : Nat} (hs : PA X es (LA X W ms)) : PE X (.Tuple es k pos) (LE X W (mTup ms)) := by
  refine (pe_tup hs).imp fun σ H Q ⟨env, c, e, re, rr, h⟩ => ⟨env, c, e, re, rr, h.bind fun ds vs c1 s1 r1 q1 h1 => ?_⟩
  cases e2 : allP ds with
  | none => simp only [e2] at h1; exact h1.elim
  | some ps =>
    simp only [e2] at h1
    split at h1
    · rename_i hz
      have q2 := allP_ok q1 e2
      exact ⟨by rw [← q2.length]; exact of_decide_eq_true hz, fun p np => h1.tup r1 q2 np⟩
    · exact h1.elim
/-- a new list of the mirror's own -/
def newLst (ds : List D) (s : S) : R D := if sizeOk ds.length then .ok (.ref s.g.length) { s with g := s.g ++ [some (.lst ds)] } else .bad
theorem newLst_size {Y : Md} {WE : Value → Option Addr → Hp → Prop} {c : Cf} {ds : List D} {vs : List V} {Q : VK} (h : Post Y (rd Y) WE c (newLst ds c.s) Q) (q : RDs Y c.m c.o c.H ds vs) : vs.length ≤ sizeLine := by
  unfold newLst at h
  split at h
  · rename_i hz
    rw [← Paired.length q]; exact of_decide_eq_true hz
  · exact h.elim
theorem newLst_put {Y : Md} {WE : Value → Option Addr → Hp → Prop} {c : Cf} {ds : List D} {vs : List V} {Q : VK} {t : Addr} (h : Post Y (rd Y) WE c (newLst ds c.s) Q) (r : Rel Y c) (q : RDs Y c.m c.o c.H ds vs) (n : c.H t = none) :
    Q (.ref t) (upd c.H t (.lst vs)) := by
  unfold newLst at h
  split at h
  · refine h (.ref t) (c.new t (.lst vs) (.lst ds)) rfl (Stp.new r n) (r.new n ?_) ⟨t, ?_, rfl⟩
    · exact ⟨vs, upd_same, RDs.up (fun i a e => get_app e) (fun _ _ e => e) (stay_of (upd_stay n)) q⟩
    · show (c.m ++ [t])[c.s.g.length]? = some t
      rw [← r.gl]; simp
  · exact h.elim
def mLst (ms : MA) : ME := fun env s => (ms env s).bind newLst
theorem e_lst (hs : PA X es (LA X W ms)) : PE X (.List es pos) (LE X W (mLst ms)) :=
  (pe_lst hs).imp fun σ H Q ⟨env, c, e, re, rr, h⟩ => ⟨env, c, e, re, rr, h.bind fun ds vs c1 s1 r1 q1 h1 => ⟨newLst_size h1 q1, fun p np => newLst_put h1 r1 q1 np⟩⟩
end
end Mp

/-! MP, part C: statements, loops, defs, calls. -/
namespace Mp
open PySem PySem.Spec PyProof.Rows L2

def PostS (Y : Md) (W : WX) (D : Ends) (c : Cf) : RS → Prop
  | .nx env s' => ∀ (σ' : L2.St) c', c'.s = s' → Stp c c' → Rel Y c' → RE Y c' env σ' → D.nx σ' c'.H
  | .ret d s' => ∀ v c', c'.s = s' → Stp c c' → Rel Y c' → rd Y c' d v → D.rt v c'.H
  | .brk env s' => ∀ (σ' : L2.St) c', c'.s = s' → Stp c c' → Rel Y c' → RE Y c' env σ' → D.bk σ' c'.H
  | .cont env s' => ∀ (σ' : L2.St) c', c'.s = s' → Stp c c' → Rel Y c' → RE Y c' env σ' → D.ct σ' c'.H
  | .ex x fs env s' => ∀ cv dx (σ' : L2.St) c', c'.s = s' → Stp c c' → Rel Y c' → XR Y c' x fs cv dx → RE Y c' env σ' → W cv dx σ' c'.H
  | .bad => False
def LS (X : Cx) (W : WX) (m : MS) : TS := fun D σ H => ∃ env c, c.H = H ∧ RE (yx X) c env σ ∧ Rel (yx X) c ∧ PostS (yx X) W D c (m env c.s)
theorem PostS.step {Y : Md} {W : WX} {D : Ends} {c c' : Cf} {r : RS} (h : PostS Y W D c r) (st : Stp c c') : PostS Y W D c' r := by
  cases r with
  | nx env s' => exact fun σ' c2 e s2 => h σ' c2 e (st.trans s2)
  | ret d s' => exact fun v c2 e s2 => h v c2 e (st.trans s2)
  | brk env s' => exact fun σ' c2 e s2 => h σ' c2 e (st.trans s2)
  | cont env s' => exact fun σ' c2 e s2 => h σ' c2 e (st.trans s2)
  | ex x fs env s' => exact fun cv dx σ' c2 e s2 => h cv dx σ' c2 e (st.trans s2)
  | bad => exact h

/-- an expression's end, then a statement's -/
def R.thn {α : Type} : R α → Env1 → (α → S → RS) → RS
  | .ok a s, _, f => f a s
  | .ex x fs s, env, _ => .ex x fs env s
  | .bad, _, _ => .bad
@[simp] theorem R.thn_ok {α : Type} {a : α} {s : S} {env : Env1} {f : α → S → RS} : (R.ok a s).thn env f = f a s := rfl
@[simp] theorem R.thn_ex {α : Type} {x : Str} {fs : List (Str × D)} {s : S} {env : Env1} {f : α → S → RS} : (R.ex x fs s : R α).thn env f = .ex x fs env s := rfl
@[simp] theorem R.thn_bad {α : Type} {env : Env1} {f : α → S → RS} : (R.bad : R α).thn env f = .bad := rfl
theorem PostS.bind {α β : Type} {Y : Md} {RA : Cf → α → β → Prop} {W : WX} {D : Ends} {c : Cf} {ra : R α} {env : Env1} {σ : L2.St} {f : α → S → RS} {Q1 : β → Hp → Prop} (h : PostS Y W D c (ra.thn env f)) (re : RE Y c env σ) (r : Rel Y c)
    (k : ∀ a b c1, Stp c c1 → Rel Y c1 → RA c1 a b → PostS Y W D c1 (f a c1.s) → Q1 b c1.H) : Post Y RA (fun cv dx H' => W cv dx σ H') c ra Q1 := by
  cases ra with
  | ok a s' => exact fun b c2 e s2 r2 ra => k a b c2 s2 r2 ra (by rw [e]; exact PostS.step h s2)
  | ex x fs s' => exact fun cv dx c2 e s2 r2 xr => h cv dx σ c2 e s2 r2 xr (re.step r s2)
  | bad => exact h

section
variable {X : Cx} {W : WX} {pos : Pos} {a b : Expr} {ma mb : ME} {st : Stmt} {rest : List Stmt} {m1 m2 : MS}

/-! ### blocks -/
def sNext : MS := fun env s => .nx env s
def RS.seq : RS → MS → RS
  | .nx env s, m => m env s
  | .ret d s, _ => .ret d s
  | .brk env s, _ => .brk env s
  | .cont env s, _ => .cont env s
  | .ex x fs env s, _ => .ex x fs env s
  | .bad, _ => .bad
def sSeq (m1 m2 : MS) : MS := fun env s => (m1 env s).seq m2
@[simp] theorem seq_nx {env : Env1} {s : S} {m : MS} : (RS.nx env s).seq m = m env s := rfl
@[simp] theorem seq_ret {d : D} {s : S} {m : MS} : (RS.ret d s).seq m = .ret d s := rfl
@[simp] theorem seq_brk {env : Env1} {s : S} {m : MS} : (RS.brk env s).seq m = .brk env s := rfl
@[simp] theorem seq_cont {env : Env1} {s : S} {m : MS} : (RS.cont env s).seq m = .cont env s := rfl
@[simp] theorem seq_ex {x : Str} {fs : List (Str × D)} {env : Env1} {s : S} {m : MS} : (RS.ex x fs env s).seq m = .ex x fs env s := rfl
@[simp] theorem seq_bad {m : MS} : RS.bad.seq m = .bad := rfl
theorem PostS.seq {Y : Md} {D : Ends} {c : Cf} {r : RS} {m : MS} {N : L2.St → Hp → Prop} (h : PostS Y W D c (r.seq m))
    (k : ∀ env (σ : L2.St) c1, Stp c c1 → Rel Y c1 → RE Y c1 env σ → PostS Y W D c1 (m env c1.s) → N σ c1.H) : PostS Y W { D with nx := N } c r := by
  cases r with
  | nx env s' => exact fun σ' c2 e s2 r2 re => k env σ' c2 s2 r2 re (by rw [e]; exact PostS.step h s2)
  | ret d s' => exact h
  | brk env s' => exact h
  | cont env s' => exact h
  | ex x fs env s' => exact h
  | bad => exact h
theorem ss_nil : PSs X [] (LS X W sNext) := pss_nil.imp fun D σ H ⟨env, c, e, re, r, h⟩ => by subst e; exact h σ c rfl Stp.refl r re
theorem ss_cons (h1 : PS X st (LS X W m1)) (h2 : PSs X rest (LS X W m2)) : PSs X (st :: rest) (LS X W (sSeq m1 m2)) :=
  (pss_cons h1 h2).imp fun D σ H ⟨env, c, e, re, r, h⟩ => ⟨env, c, e, re, r, PostS.seq h fun env1 σ1 c1 s1 r1 re1 h1 => ⟨env1, c1, rfl, re1, r1, h1⟩⟩
theorem ss_one (h1 : PS X st (LS X W m1)) : PSs X [st] (LS X W m1) := pss_one h1

/-! ### simple statements -/
def sBrk : MS := fun env s => .brk env s
def sCont : MS := fun env s => .cont env s
theorem s_pass : PS X (.Pass pos) (LS X W sNext) := ps_pass.imp fun D σ H ⟨env, c, e, re, r, h⟩ => by subst e; exact h σ c rfl Stp.refl r re
theorem s_brk : PS X (.Break pos) (LS X W sBrk) := ps_break.imp fun D σ H ⟨env, c, e, re, r, h⟩ => by subst e; exact h σ c rfl Stp.refl r re
theorem s_cont : PS X (.Continue pos) (LS X W sCont) := ps_continue.imp fun D σ H ⟨env, c, e, re, r, h⟩ => by subst e; exact h σ c rfl Stp.refl r re
def sExpr (ma : ME) : MS := fun env s => (ma env s).thn env fun _ s1 => .nx env s1
theorem s_expr (ha : PE X a (LE X W ma)) (hs : swapsWith a none pos.line X.env = pure false := by rfl) : PS X (.Expr a pos) (LS X W (sExpr ma)) :=
  (ps_expr ha hs).imp fun D σ H ⟨env, c, e, re, r, h⟩ => ⟨env, c, e, re, r, h.bind (RA := rd (yx X)) re r fun d v c1 s1 r1 q1 h1 => h1 σ c1 rfl Stp.refl r1 (re.step r s1)⟩
theorem s_doc {x : Str} {j : Nat} {pos' : Pos} : PS X (.Expr (.Constant (.str x) j pos) pos') (LS X W sNext) := ps_doc.imp fun D σ H ⟨env, c, e, re, r, h⟩ => by subst e; exact h σ c rfl Stp.refl r re
def sRet (ma : ME) : MS := fun env s => (ma env s).thn env fun d s1 => .ret d s1
theorem s_ret (ha : PE X a (LE X W ma)) : PS X (.Return (some a) pos) (LS X W (sRet ma)) :=
  (ps_ret ha).imp fun D σ H ⟨env, c, e, re, r, h⟩ => ⟨env, c, e, re, r, h.bind (RA := rd (yx X)) re r fun d v c1 s1 r1 q1 h1 => h1 v c1 rfl Stp.refl r1 q1⟩
def sRetN : MS := fun _ s => .ret (.p .none) s
theorem s_retN : PS X (.Return none pos) (LS X W sRetN) := ps_retN.imp fun D σ H ⟨env, c, e, re, r, h⟩ => by subst e; exact h .non c rfl Stp.refl r (by simp [RD, RP])
def sIf (t : MT) (m1 m2 : MS) : MS := fun env s => (t env s).thn env fun b s1 => if b then m1 env s1 else m2 env s1
theorem s_if {t : Expr} {mt : MT} {s1 s2 : List Stmt} (ht : PT X t (LT X W mt)) (h1 : PSs X s1 (LS X W m1)) (h2 : PSs X s2 (LS X W m2)) : PS X (.If t s1 s2 pos) (LS X W (sIf mt m1 m2)) :=
  (ps_if ht h1 h2).imp fun D σ H ⟨env, c, e, re, r, h⟩ => ⟨env, c, e, re, r, h.bind (RA := rb) re r fun d v c1 s1 r1 q1 h1 => by
    cases q1
    cases d with
    | true => exact iteT ⟨env, c1, rfl, re.step r s1, r1, h1⟩
    | false => exact iteF ⟨env, c1, rfl, re.step r s1, r1, h1⟩⟩

/-! ### targets -/
abbrev MG := D → Env1 → S → R Env1
def LG (X : Cx) (W : WX) (g : MG) : TG := fun v σ H Q => ∃ d env c, c.H = H ∧ RE (yx X) c env σ ∧ Rel (yx X) c ∧ rd (yx X) c d v ∧ Post (yx X) (RE (yx X)) (fun cv dx H' => W cv dx σ H') c (g d env c.s) Q
def LGs (X : Cx) (W : WX) (g : List D → Env1 → S → R Env1) : TGs := fun vs σ H Q => ∃ ds env c, c.H = H ∧ RE (yx X) c env σ ∧ Rel (yx X) c ∧ rds (yx X) c ds vs ∧ Post (yx X) (RE (yx X)) (fun cv dx H' => W cv dx σ H') c (g ds env c.s) Q
theorem _root_.L2.PG.imp {X : Cx} {e : Expr} {t t' : TG} (h : PG X e t) (i : ∀ v σ H Q, t' v σ H Q → t v σ H Q) : PG X e t' := ⟨fun pins s σ H v u Q I r q => h.run pins s σ H v u Q I r (i v σ H Q q)⟩
theorem _root_.L2.PGs.imp {X : Cx} {e : List Expr} {t t' : TGs} (h : PGs X e t) (i : ∀ v σ H Q, t' v σ H Q → t v σ H Q) : PGs X e t' := ⟨fun pins s σ H v u Q I r q => h.run pins s σ H v u Q I r (i v σ H Q q)⟩
def gSet (i : Nat) : MG := fun d env s => .ok (env.set i (some d)) s
theorem g_name {i : Nat} {x : Str} (hN : X.N.Nodup) (hi : X.N[i]? = some x := by rfl) (hx : Loc X.env.scope x := by first | exact Or.inl rfl | exact Or.inr rfl) (hf : X.fn x = true ∨ X.env.scope.names.lookup x = some .local := by first | exact .inl rfl | exact .inr rfl) : PG X (.Name x pos) (LG X W (gSet i)) :=
  (pg_name hN hi hx hf).imp fun v σ H Q ⟨d, env, c, e, re, r, q, h⟩ => by subst e; exact h.here r (re.set i q)
def gNone : List D → Env1 → S → R Env1 := fun ds env s => match ds with
  | [] => .ok env s
  | _ => .bad
def gMore (g : MG) (gs : List D → Env1 → S → R Env1) : List D → Env1 → S → R Env1 := fun ds env s => match ds with
  | d :: ds => (g d env s).bind fun env1 s1 => gs ds env1 s1
  | [] => .bad
theorem gs_nil : PGs X [] (LGs X W gNone) := pgs_nil.imp fun v σ H Q ⟨d, env, c, e, re, r, q, h⟩ => by
  subst e
  cases q with
  | nil => exact ⟨rfl, h.here r re⟩
  | cons _ _ => exact h.elim
/-- the names' wish is only for ways that raise nothing at a target -/
def QuietG (gs : List D → Env1 → S → R Env1) : Prop := ∀ ds env s x fs s', gs ds env s ≠ .ex x fs s'
def Quiet1 (g : MG) : Prop := ∀ d env s x fs s', g d env s ≠ .ex x fs s'
theorem Quiet1.set {i : Nat} : Quiet1 (gSet i) := fun d env s x fs s' h => by cases h
theorem QuietG.none : QuietG gNone := fun ds env s x fs s' h => by unfold gNone at h; split at h <;> cases h
theorem QuietG.more {g : MG} {gs : List D → Env1 → S → R Env1} (h1 : Quiet1 g) (h2 : QuietG gs) : QuietG (gMore g gs) := fun ds env s x fs s' h => by
  unfold gMore at h
  split at h
  · rename_i d ds'
    cases e : g d env s with
    | ok env1 s1 => rw [e] at h; exact h2 _ _ _ _ _ _ h
    | ex x' fs' s1 => exact h1 _ _ _ _ _ _ e
    | bad => rw [e] at h; cases h
  · cases h
theorem gs_cons {es : List Expr} {g : MG} {gs : List D → Env1 → S → R Env1} (h1 : PG X a (LG X W g)) (h2 : PGs X es (LGs X W gs)) (q2 : QuietG gs)
    (hs : (assignEach (a :: es) X.env).map (·.2) = assign a X.env :: (assignEach es X.env).map (·.2) := by rfl) : PGs X (a :: es) (LGs X W (gMore g gs)) :=
  (pgs_cons h1 h2 hs).imp fun v σ H Q ⟨ds, env, c, e, re, r, q, h⟩ => by
    cases q with
    | nil => exact h.elim
    | cons q qr =>
      refine ⟨_, _, rfl, _, env, c, e, re, r, q, h.bind fun env1 σ1 c1 s1 r1 re1 h1 => ⟨_, env1, c1, rfl, re1, r1, RDs.step r s1 qr, ?_⟩⟩
      generalize hg : gs _ env1 c1.s = z at h1 ⊢
      cases z with
      | ok env2 s2 => exact h1
      | ex x fs s2 => exact absurd hg (q2 _ _ _ _ _ _)
      | bad => exact h1
def gTup (n : Nat) (gs : List D → Env1 → S → R Env1) : MG := fun d env s => match d with
  | .p (.tuple ps) => if ps.length = n then gs (ps.map .p) env s else .bad
  | _ => .bad
theorem RPs.rds {Y : Md} {m o : List Addr} {H : Hp} : ∀ {ps : List PyData} {vs : List V}, RPs Y.K H ps vs → RDs Y m o H (ps.map .p) vs
  | [], _, h => by simp only [RPs] at h; subst h; exact .nil
  | p :: ps, _, h => by simp only [RPs] at h; obtain ⟨v, r, rfl, h1, h2⟩ := h; exact .cons h1 (RPs.rds h2)
theorem g_tup {es : List Expr} {k n : Nat} {gs : List D → Env1 → S → R Env1} (hc : X.calm = true) (h : PGs X es (LGs X W gs)) (hn : (assignEach es X.env).length = n := by rfl) (hst : (assignEach es X.env).findIdx? (·.1) = none := by rfl) : PG X (.Tuple es k pos) (LG X W (gTup n gs)) :=
  (pg_tup hc h hn hst).imp fun v σ H Q ⟨d, env, c, e, re, r, q, h⟩ => by
    unfold gTup at h
    split at h
    · rename_i ps
      split at h
      · rename_i hl
        have q' : RP X.K c.H (.tuple ps) v := q
        simp only [RP] at q'
        obtain ⟨t, vs, rfl, h1, h2⟩ := q'
        subst e
        exact ⟨t, vs, rfl, h1, by rw [← h2.length]; exact hl, _, env, c, rfl, re, r, h2.rds, h⟩
      · exact h.elim
    · exact h.elim
def sAsg (ma : ME) (g : MG) : MS := fun env s => (ma env s).thn env fun d s1 => (g d env s1).thn env fun env1 s2 => .nx env1 s2
theorem s_asg {tg : Expr} {g : MG} (ha : PE X a (LE X W ma)) (hg : PG X tg (LG X W g)) (hs : swapsWithSole [tg] a pos.line X.env = pure false := by rfl) (hw : swappedStores [tg] a X.env = pure none := by rfl)
    (h1 : (assignEach [tg] X.env).map (·.2) = [assign tg X.env] := by rfl) : PS X (.Assign [tg] a pos) (LS X W (sAsg ma g)) :=
  (ps_asg ha hg hs hw h1).imp fun D σ H ⟨env, c, e, re, r, h⟩ => ⟨env, c, e, re, r, h.bind (RA := rd (yx X)) re r fun d v c1 s1 r1 q1 h1 =>
    ⟨d, env, c1, rfl, re.step r s1, r1, q1, h1.bind (RA := RE (yx X)) (re.step r s1) r1 fun env1 σ1 c2 s2 r2 re2 h2 => h2 σ1 c2 rfl Stp.refl r2 re2⟩⟩
/-- x = e -/
def sSet (i : Nat) (ma : ME) : MS := fun env s => (ma env s).thn env fun d s1 => .nx (env.set i (some d)) s1
theorem s_set {i : Nat} {x : Str} {pos' : Pos} (hN : X.N.Nodup) (ha : PE X a (LE X W ma)) (hi : X.N[i]? = some x := by rfl) (hx : Loc X.env.scope x := by first | exact Or.inl rfl | exact Or.inr rfl) (hs : swapsWith a (some (.Name x pos')) pos.line X.env = pure false := by rfl)
    (hf : X.fn x = true ∨ X.env.scope.names.lookup x = some .local := by first | exact .inl rfl | exact .inr rfl) : PS X (.Assign [.Name x pos'] a pos) (LS X W (sSet i ma)) :=
  (ps_set hN hi hx ha hs hf).imp fun D σ H ⟨env, c, e, re, r, h⟩ => ⟨env, c, e, re, r, h.bind (RA := rd (yx X)) re r fun d v c1 s1 r1 q1 h1 => h1 _ c1 rfl Stp.refl r1 ((re.step r s1).set i q1)⟩

/-! ### for -/
/-- what is walked: items that stand for good, or an own list as it stands -/
inductive Src where
  | fix (xs : List D) | own (i : Nat) (xs : List D)
def Src.items : Src → List D
  | .fix xs => xs
  | .own _ xs => xs
def Src.ok : Src → S → Prop
  | .fix _, _ => True
  | .own i xs, s => s.g[i]? = some (some (.lst xs))
open Classical in
/-- the loop's turns over the items that are left -/
noncomputable def forL (ok : S → Prop) (g : MG) (body : MS) : List D → Env1 → S → RS
  | [], env, s => if ok s then .nx env s else .bad
  | x :: xs, env, s => if ok s then (g x env s).thn env fun env1 s1 => match body env1 s1 with
    | .nx e s2 => forL ok g body xs e s2
    | .cont e s2 => forL ok g body xs e s2
    | .brk e s2 => .nx e s2
    | .ret d s2 => .ret d s2
    | .ex c fs e s2 => .ex c fs e s2
    | .bad => .bad
    else .bad
abbrev MI := Env1 → S → R Src
noncomputable def sFor (it : MI) (g : MG) (body : MS) : MS := fun env s => (it env s).thn env fun src s1 => forL src.ok g body src.items env s1
/-- an iterator walks the items -/
structure RSrc (Y : Md) (c0 : Cf) (src : Src) (J : It) : Prop where
  stop : ∀ c, Stp c0 c → Rel Y c → src.ok c.s → J.stop src.items.length c.H
  go : ∀ c i, Stp c0 c → Rel Y c → src.ok c.s → i < src.items.length → J.go i c.H
  yld : ∀ c (i : Nat) x v H', Stp c0 c → Rel Y c → src.ok c.s → src.items[i]? = some x → J.yld i c.H v H' → ∃ c', c'.H = H' ∧ c'.s = c.s ∧ Stp c c' ∧ Rel Y c' ∧ rd Y c' x v
def LI (X : Cx) (W : WX) (mi : MI) : TI := fun σ H R => ∃ env c, c.H = H ∧ RE (yx X) c env σ ∧ Rel (yx X) c ∧ Post (yx X) (RSrc (yx X)) (fun cv dx H' => W cv dx σ H') c (mi env c.s) R
theorem _root_.L2.PI.imp {X : Cx} {tg e : Expr} {t t' : TI} (h : PI X tg e t) (i : ∀ σ H Q, t' σ H Q → t σ H Q) : PI X tg e t' := ⟨fun pins s σ H R I q => h.run pins s σ H R I (i σ H R q)⟩
theorem for_turns {Y : Md} (hY : Y = yx X) {src : Src} {J : It} {g : MG} {body : MS} {c0 : Cf} (rs : RSrc Y c0 src J) {D : Ends} {σ : L2.St} {env : Env1} (re : RE Y c0 env σ) (r : Rel Y c0) (h : PostS Y W D c0 (forL src.ok g body src.items env c0.s)) :
    ∃ Wm : Nat → Nat → L2.St → Hp → Prop, (∃ m, Wm 0 m σ c0.H) ∧ ∀ i m σ H, Wm i m σ H →
      (J.stop i H ∧ D.nx σ H) ∨ (J.go i H ∧ ∃ N : L2.St → Hp → Prop, (∀ σ' H', N σ' H' → ∃ m', m' < m ∧ Wm (i + 1) m' σ' H') ∧ ∀ x H', J.yld i H x H' → LG X W g x σ H' fun σ2 H2 => LS X W body { D with nx := N, ct := N, bk := D.nx } σ2 H2) := by
  subst hY
  refine ⟨fun i m σ H => ∃ env c, c.H = H ∧ Stp c0 c ∧ RE (yx X) c env σ ∧ Rel (yx X) c ∧ i ≤ src.items.length ∧ m = src.items.length - i ∧ PostS (yx X) W D c (forL src.ok g body (src.items.drop i) env c.s),
    ⟨_, env, c0, rfl, Stp.refl, re, r, Nat.zero_le _, rfl, by simpa using h⟩, ?_⟩
  rintro i m σ H ⟨env, c, rfl, st, re, r, hi, rfl, h⟩
  by_cases hlt : i < src.items.length
  · right
    rw [List.drop_eq_getElem_cons hlt] at h
    simp only [forL] at h
    split at h
    · rename_i ok
      refine ⟨rs.go c i st r ok hlt, fun σ' H' => ∃ env c, c.H = H' ∧ Stp c0 c ∧ RE (yx X) c env σ' ∧ Rel (yx X) c ∧ PostS (yx X) W D c (forL src.ok g body (src.items.drop (i + 1)) env c.s),
        fun σ' H' ⟨env', c', e, s', re', r', h'⟩ => ⟨_, by omega, env', c', e, s', re', r', hlt, rfl, h'⟩, fun v H' y => ?_⟩
      obtain ⟨c1, rfl, e1, s1, r1, q1⟩ := rs.yld c i _ v H' st r ok (List.getElem?_eq_getElem hlt) y
      refine ⟨_, env, c1, rfl, re.step r s1, r1, q1, ?_⟩
      have h' := PostS.step h s1
      rw [← e1] at h'
      refine h'.bind (RA := RE (yx X)) (re.step r s1) r1 fun env2 σ2 c2 s2 r2 re2 h2 => ⟨env2, c2, rfl, re2, r2, ?_⟩
      have s02 := (st.trans s1).trans s2
      cases hb : body env2 c2.s with
      | nx e s3 =>
        rw [hb] at h2
        exact fun σ' c3 e3 s3' r3 re3 => ⟨e, c3, rfl, s02.trans s3', re3, r3, by rw [e3]; exact PostS.step h2 s3'⟩
      | cont e s3 =>
        rw [hb] at h2
        exact fun σ' c3 e3 s3' r3 re3 => ⟨e, c3, rfl, s02.trans s3', re3, r3, by rw [e3]; exact PostS.step h2 s3'⟩
      | brk e s3 => rw [hb] at h2; exact h2
      | ret d s3 => rw [hb] at h2; exact h2
      | ex x fs e s3 => rw [hb] at h2; exact h2
      | bad => rw [hb] at h2; exact h2
    · exact h.elim
  · left
    have e : i = src.items.length := by omega
    subst e
    rw [List.drop_length] at h
    simp only [forL] at h
    split at h
    · rename_i ok
      exact ⟨rs.stop c st r ok, h σ c rfl Stp.refl r re⟩
    · exact h.elim
theorem s_for {tg iter : Expr} {body : List Stmt} {mi : MI} {g : MG} {mb : MS} (hp : PassesOwn (model X.prog X.w) X.A X.env X.xe) (hc : X.calm = true) (hi : PI X tg iter (LI X W mi)) (hg : PG X tg (LG X W g)) (hb : PSs X body (LS X W mb))
    (hs : ∀ x, foldedSetIterable iter X.env x = pure x := by intro _; rfl) : PS X (.For tg iter body [] pos) (LS X W (sFor mi g mb)) :=
  (ps_for hp hc hi hg hb hs).imp fun D σ H ⟨env, c, e, re, r, h⟩ => ⟨env, c, e, re, r, h.bind (RA := RSrc (yx X)) re r fun src J c1 s1 r1 q1 h1 => for_turns rfl q1 (re.step r s1) r1 h1⟩
end
end Mp

/-! MP, part D: while, defs, calls. -/
namespace Mp
open PySem PySem.Spec PyProof.Rows L2

/-! ### while -/
/-- so many turns -/
def whN (t : MT) (body : MS) : Nat → Env1 → S → Option RS
  | 0, _, _ => none
  | n + 1, env, s => match t env s with
    | .ok true s1 => (match body env s1 with
      | .nx e s2 => whN t body n e s2
      | .cont e s2 => whN t body n e s2
      | .brk e s2 => some (.nx e s2)
      | .ret d s2 => some (.ret d s2)
      | .ex c fs e s2 => some (.ex c fs e s2)
      | .bad => some .bad)
    | .ok false s1 => some (.nx env s1)
    | .ex x fs s1 => some (.ex x fs env s1)
    | .bad => some .bad
theorem whN_more {t : MT} {body : MS} : ∀ {n : Nat} {env : Env1} {s : S} {r : RS}, whN t body n env s = some r → whN t body (n + 1) env s = some r
  | 0, _, _, _, h => by cases h
  | n + 1, env, s, r, h => by
    unfold whN at h ⊢
    split at h
    · split at h
      · exact whN_more h
      · exact whN_more h
      all_goals exact h
    all_goals exact h
theorem whN_le {t : MT} {body : MS} {n k : Nat} {env : Env1} {s : S} {r : RS} (h : whN t body n env s = some r) : whN t body (n + k) env s = some r := by
  induction k with
  | zero => exact h
  | succ k ih => exact whN_more ih
open Classical in
noncomputable def sWhile (t : MT) (body : MS) : MS := fun env s => if h : ∃ r n, whN t body n env s = some r then h.choose else .bad
theorem sWhile_of {t : MT} {body : MS} {n : Nat} {env : Env1} {s : S} {r : RS} (h : whN t body n env s = some r) : sWhile t body env s = r := by
  have e : ∃ r n, whN t body n env s = some r := ⟨r, n, h⟩
  unfold sWhile
  rw [dif_pos e]
  obtain ⟨m, hm⟩ := e.choose_spec
  have h1 := whN_le (k := m) h
  have h2 := whN_le (k := n) hm
  rw [Nat.add_comm] at h2
  rw [h1] at h2
  exact (Option.some.inj h2).symm
theorem sWhile_ex {t : MT} {body : MS} {env : Env1} {s : S} (h : sWhile t body env s ≠ .bad) : ∃ n, whN t body n env s = some (sWhile t body env s) := by
  unfold sWhile at h ⊢
  split at h
  · rename_i e
    rw [dif_pos e]
    exact e.choose_spec
  · exact absurd rfl h
/-- one turn -/
theorem sWhile_eq {t : MT} {body : MS} {env : Env1} {s : S} : sWhile t body env s = (t env s).thn env fun b s1 => if b then (match body env s1 with
    | .nx e s2 => sWhile t body e s2
    | .cont e s2 => sWhile t body e s2
    | .brk e s2 => .nx e s2
    | .ret d s2 => .ret d s2
    | .ex c fs e s2 => .ex c fs e s2
    | .bad => .bad) else .nx env s1 := by
  cases ht : t env s with
  | ok b s1 =>
    cases b with
    | true =>
      cases hb : body env s1 with
      | nx e s2 =>
        by_cases h : sWhile t body e s2 = .bad
        · by_cases h0 : sWhile t body env s = .bad
          · simp only [R.thn_ok, hb, h, h0, if_true]
          · obtain ⟨n, hn⟩ := sWhile_ex h0
            cases n with
            | zero => cases hn
            | succ n =>
              unfold whN at hn
              simp only [ht, hb] at hn
              have := sWhile_of hn
              simp only [R.thn_ok, hb, if_true]
              exact this.symm
        · obtain ⟨n, hn⟩ := sWhile_ex h
          have : whN t body (n + 1) env s = some (sWhile t body e s2) := by unfold whN; simp only [ht, hb]; exact hn
          simp only [R.thn_ok, hb, if_true]
          exact sWhile_of this
      | cont e s2 =>
        by_cases h : sWhile t body e s2 = .bad
        · by_cases h0 : sWhile t body env s = .bad
          · simp only [R.thn_ok, hb, h, h0, if_true]
          · obtain ⟨n, hn⟩ := sWhile_ex h0
            cases n with
            | zero => cases hn
            | succ n =>
              unfold whN at hn
              simp only [ht, hb] at hn
              have := sWhile_of hn
              simp only [R.thn_ok, hb, if_true]
              exact this.symm
        · obtain ⟨n, hn⟩ := sWhile_ex h
          have : whN t body (n + 1) env s = some (sWhile t body e s2) := by unfold whN; simp only [ht, hb]; exact hn
          simp only [R.thn_ok, hb, if_true]
          exact sWhile_of this
      | brk e s2 => exact sWhile_of (n := 1) (by unfold whN; simp [ht, hb])
      | ret d s2 => exact sWhile_of (n := 1) (by unfold whN; simp [ht, hb])
      | ex x fs e s2 => exact sWhile_of (n := 1) (by unfold whN; simp [ht, hb])
      | bad => exact sWhile_of (n := 1) (by unfold whN; simp [ht, hb])
    | false => exact sWhile_of (n := 1) (by unfold whN; simp [ht])
  | ex x fs s1 => exact sWhile_of (n := 1) (by unfold whN; simp [ht])
  | bad => exact sWhile_of (n := 1) (by unfold whN; simp [ht])
section
variable {X : Cx} {W : WX} {pos : Pos} {a b : Expr} {ma mb : ME}
theorem PostS.notBad {Y : Md} {D : Ends} {c : Cf} {r : RS} (h : PostS Y W D c r) : r ≠ .bad := by
  intro e; rw [e] at h; exact h
theorem s_while {t : Expr} {body : List Stmt} {mt : MT} {mb : MS} (hp : PassesOwn (model X.prog X.w) X.A X.env X.xe) (ht : PT X t (LT X W mt)) (hb : PSs X body (LS X W mb)) : PS X (.While t body [] pos) (LS X W (sWhile mt mb)) := by
  refine (ps_while hp ht hb).imp fun D σ H ⟨env, c, e, re, r, h⟩ => ?_
  subst e
  obtain ⟨n0, hn0⟩ := sWhile_ex h.notBad
  refine ⟨fun n σ H => ∃ env c r, c.H = H ∧ RE (yx X) c env σ ∧ Rel (yx X) c ∧ whN mt mb n env c.s = some r ∧ PostS (yx X) W D c r, ⟨n0, env, c, _, rfl, re, r, hn0, h⟩, ?_⟩
  rintro n σ H ⟨env, c, rr, rfl, re, r, hn, h⟩
  cases n with
  | zero => cases hn
  | succ n =>
    unfold whN at hn
    refine ⟨env, c, rfl, re, r, ?_⟩
    cases ht : mt env c.s with
    | ok bb s1 =>
      intro bv c1 e1 s01 r1 q1
      cases q1
      rw [ht] at hn
      cases bb with
      | true =>
        refine iteT ⟨fun σ' H' => ∃ env c r, c.H = H' ∧ RE (yx X) c env σ' ∧ Rel (yx X) c ∧ whN mt mb n env c.s = some r ∧ PostS (yx X) W D c r, fun σ' H' ⟨env', c', r', e', re', rr', hn', h'⟩ => ⟨n, Nat.lt_succ_self _, env', c', r', e', re', rr', hn', h'⟩, env, c1, rfl, re.step r s01, r1, ?_⟩
        simp only at hn
        cases hb : mb env c1.s with
        | nx e s2 =>
          rw [← e1, hb] at hn
          exact fun σ' c2 e2 s12 r2 re2 => ⟨e, c2, rr, rfl, re2, r2, by rw [e2]; exact hn, PostS.step h (s01.trans s12)⟩
        | cont e s2 =>
          rw [← e1, hb] at hn
          exact fun σ' c2 e2 s12 r2 re2 => ⟨e, c2, rr, rfl, re2, r2, by rw [e2]; exact hn, PostS.step h (s01.trans s12)⟩
        | brk e s2 =>
          rw [← e1, hb] at hn
          cases hn
          exact PostS.step h s01
        | ret d s2 =>
          rw [← e1, hb] at hn
          cases hn
          exact PostS.step h s01
        | ex x fs e s2 =>
          rw [← e1, hb] at hn
          cases hn
          exact PostS.step h s01
        | bad =>
          rw [← e1, hb] at hn
          cases hn
          exact h.elim
      | false =>
        simp only [Option.some.injEq] at hn
        subst hn
        exact iteF (h σ c1 e1 s01 r1 (re.step r s01))
    | ex x fs s1 =>
      rw [ht] at hn
      simp only [Option.some.injEq] at hn
      subst hn
      exact fun cv dx c1 e1 s01 r1 xr => h cv dx σ c1 e1 s01 r1 xr (re.step r s01)
    | bad =>
      rw [ht] at hn
      simp only [Option.some.injEq] at hn
      subst hn
      exact h.elim
end

/-! ### defs -/
/-- a def's body as a function of its arguments: n parameters, z slots in all -/
def fnM (n z : Nat) (body : MS) : List D → S → R D := fun ds s => if ds.length = n then (match body (ds.map some ++ List.replicate (z - n) none) s with
  | .ret d s' => .ok d s'
  | .nx _ s' => .ok (.p .none) s'
  | .ex x fs _ s' => .ex x fs s'
  | _ => .bad) else .bad
/-- the promise that a mirror makes -/
def spM (Y : Md) (n : Nat) (m : List D → S → R D) : Sp := fun vs H Q E => vs.length = n ∧ ∃ ds c, c.H = H ∧ Rel Y c ∧ rds Y c ds vs ∧ Post Y (rd Y) (fun cv dx H' => E cv dx H') c (m ds c.s) Q
/-- the wish of a def about what it lets out -/
abbrev wOut (E : XK) : WX := fun cls d _ H => E cls d H
theorem re_start {Y : Md} {c : Cf} {ds : List D} {vs : List V} {N : List Str} (h : rds Y c ds vs) : RE Y c (ds.map some ++ List.replicate (N.length - vs.length) none) (L2.start N vs) := by
  have hl := Paired.length h
  refine ⟨by simp [L2.start, hl], fun i d e => ?_⟩
  unfold L2.start
  by_cases hi : i < ds.length
  · rw [List.getElem?_append_left (by simpa using hi)] at e
    rw [List.getElem?_append_left (by simpa [← hl] using hi)]
    simp only [List.getElem?_map, Option.map_eq_some_iff] at e
    obtain ⟨d', e1, e2⟩ := e
    cases e2
    have hv : i < vs.length := by omega
    refine ⟨vs[i], by simp [hv], ?_⟩
    have gen : ∀ {ds : List D} {vs : List V} {i : Nat} {d : D} {v : V}, rds Y c ds vs → ds[i]? = some d → vs[i]? = some v → rd Y c d v := by
      intro ds vs i d v h
      induction h generalizing i with
      | nil => intro e; simp at e
      | cons q t ih =>
        intro e1 e2
        cases i with
        | zero => simp at e1 e2; subst e1; subst e2; exact q
        | succ i => simp at e1 e2; exact ih e1 e2
    exact gen h e1 (by simp [hv])
  · rw [List.getElem?_append_right (by simpa using hi)] at e
    rw [List.getElem?_replicate] at e
    split at e <;> cases e
theorem fn_ok {P : Program} {w : World} {K : PySem.W.Frag} {mg : Str → Option Value} {base : Heap} {x qual : Str} {params : Arguments} {body : List Stmt} {scope : Scope} {f : Addr} {fd : FuncData} {N ps : List Str} {k n z : Nat} {m : MS}
    (F : FunD K x qual params body scope [] [] f fd) (Sc : FnScope N ps scope) (hn : ps.length = n) (hz : N.length = z)
    (hb : ∀ (cdv : Value) (A : Around) (outer : List Env) (s : Shared) (H : Hp) (E : XK), Room k (A.deeper (envOfC qual scope s.heap.objs.size f cdv)) →
      PSs (cxOf (L2.CX P w) P w K mg base N qual scope f cdv A outer s H E) body (LS (cxOf (L2.CX P w) P w K mg base N qual scope f cdv A outer s H E) (wOut E) m)) :
    FnOk P w K mg base (L2.CX P w) (k + 1) f fd ps (spM ⟨K, mg⟩ n (fnM n z m)) := by
  subst hn
  subst hz
  refine F.ok Sc (fun vs H Q E h => h.1) fun cdv A outer s H vs Q E hr hsp => ⟨_, hb cdv A outer s H E hr, ?_⟩
  obtain ⟨hl, ds, c, e, r, q, h⟩ := hsp
  have hl2 : ds.length = ps.length := by rw [Paired.length q]; exact hl
  have re : RE (yx (cxOf (L2.CX P w) P w K mg base N qual scope f cdv A outer s H E)) c _ _ := re_start (N := N) q
  refine ⟨_, c, e, re, r, ?_⟩
  unfold fnM at h
  rw [if_pos hl2, ← hl] at h
  generalize hbd : m (ds.map some ++ List.replicate (N.length - vs.length) none) c.s = z at h ⊢
  cases z with
  | nx env' s' => exact fun σ' c' e' st r' re' => h .non c' e' st r' (by show RP K c'.H .none .non; simp [RP])
  | ret d s' => exact fun v c' e' st r' rd' => h v c' e' st r' rd'
  | ex x fs env' s' => exact fun cv dx σ' c' e' st r' xr re' => h cv dx c' e' st r' xr
  | brk env' s' => exact h.elim
  | cont env' s' => exact h.elim
  | bad => exact h.elim

/-! ### calls -/
section
variable {X : Cx} {W : WX} {pos : Pos} {es : List Expr} {ms : MA}
/-- on the caller's heap -/
def mCall (f : List D → S → R D) (ms : MA) : ME := fun env s => (ms env s).bind f
theorem e_call {k n : Nat} {f : Addr} {fd : FuncData} {ps : List Str} {x : Str} {p : Pos} {e : Expr} {m : List D → S → R D} (F : FnOk X.prog X.w X.K X.mg X.base (L2.CX X.prog X.w) k f fd ps (spM (yx X) n m)) (hr : Room k X.A) (hg : Gl X x) (hm : X.mg x = some (.ref f))
    (hk : PySem.W.keepIn X.K (.ref f) = true) (hb : Binds X.K fd ps []) (hn : ps.length = n) (tk : Takes X W) (ha : PA X (e :: es) (LA X W ms)) (hl : ∀ env s ds s', ms env s = .ok ds s' → ds.length = n)
    (hdb : (x == ("__debug__" : Str)) = false := by decide) (he : starEach (e :: es) X.env = (false, eval e X.env) :: starEach es X.env := by rfl) (hpl : (backTo pos (starEach es X.env)).any (·.1) = false := by rfl) :
    PE X (.Call (.Name x p) (e :: es) [] pos) (LE X W (mCall m ms)) := by
  refine (pe_callS (E := fun σ => fun cls d H => W cls d σ H) F hr hg hm hk hb (fun σ => passAt tk σ) ha hdb he hpl).imp fun σ H Q ⟨env, c, e, re, r, h⟩ => ?_
  refine ⟨env, c, e, re, r, ?_⟩
  cases hms : ms env c.s with
  | ok ds s' =>
    unfold mCall at h
    rw [hms] at h
    intro vs c1 e1 s1 r1 q1
    refine ⟨by rw [← Paired.length q1]; exact hl _ _ _ _ hms, ds, c1, rfl, r1, q1, ?_⟩
    rw [e1]
    exact h.step s1
  | ex y fs s' =>
    unfold mCall at h
    rw [hms] at h
    exact h
  | bad =>
    unfold mCall at h
    rw [hms] at h
    exact h.elim
end
end Mp

/-! MP, part E: freezing, what is walked, comprehensions. -/
namespace Mp
open PySem PySem.Spec PyProof.Rows L2

/-! ### freezing -/
/-- some tracked lists and dicts are locked, one after another -/
inductive FZ (Q : Hp → Prop) : Hp → Prop
  | done {H : Hp} : Q H → FZ Q H
  | one {H : Hp} (a : Addr) (u : HO) : H a = some u → Mut (some u) → (∀ o, FZ Q (upd H a (.frz o u))) → FZ Q H
theorem fz_run {X : Cx} {pins : List (Addr × Obj)} {σ : L2.St} {H : Hp} {s : Shared} {Q : Hp → Prop} (h : FZ Q H) (I : Inv X pins σ H s) : ∃ H', Inv X pins σ H' s ∧ Q H' := by
  induction h with
  | done q => exact ⟨_, I, q⟩
  | one a u e mu _ ih =>
    obtain ⟨o, I'⟩ := I.lock e mu
    exact ih o I'
theorem _root_.L2.PE.fz {X : Cx} {e : Expr} {t : TE} (h : PE X e t) : PE X e (fun σ H Q => t σ H fun v H' => FZ (Q v) H') :=
  ⟨fun pins s σ H Q I q => thn (h.run pins s σ H _ I q) fun u s1 ⟨v, H1, I1, r1, f⟩ => let ⟨H2, I2, q2⟩ := fz_run f I1; ⟨v, H2, I2, r1, q2⟩⟩
/-- lists and tuples are no longer than the line -/
def SizeOk (K : PySem.W.Frag) (v : V) (H : Hp) : Prop := ∀ a xs, v = .ref a → (SqL K H a xs ∨ SqT K H a xs) → xs.length ≤ sizeLine
theorem _root_.L2.PE.size {X : Cx} {e : Expr} {t : TE} (h : PE X e t) : PE X e (fun σ H Q => t σ H fun v H' => SizeOk X.K v H' → Q v H') :=
  ⟨fun pins s σ H Q I q => thn (h.run pins s σ H _ I q) fun u s1 ⟨v, H1, I1, r1, f⟩ => ⟨v, H1, I1, r1, f fun a xs _ hq => by
    rcases hq with hq | hq
    · obtain ⟨_, _, _, z⟩ := I1.list hq; exact z
    · obtain ⟨_, _, _, z⟩ := I1.tuple hq; exact z⟩⟩

/-- something at an address that the mirror doesn't own is changed: no tuple, nothing frozen, nobody's dict -/
theorem Rel.poke {Y : Md} {c : Cf} (r : Rel Y c) {a : Addr} {u u' : HO} (h : c.H a = some u) (mv : Movable u) (no : ¬ c.Own a) : Rel Y { c with H := upd c.H a u' } := by
  have st : Stay c.H (upd c.H a u') := fun b => by
    refine ⟨fun xs e => ?_, fun o v e => ?_⟩
    · rw [upd_ne]
      · exact e
      · intro z; subst z; rw [h] at e; cases e; exact mv
    · rw [upd_ne]
      · exact e
      · intro z; subst z; rw [h] at e; cases e; exact mv
  have own : ∀ (b d : Addr), c.H d = some (.own b) → upd c.H a u' d = some (.own b) := fun b d e => by
    rw [upd_ne]
    · exact e
    · intro z; subst z; rw [h] at e; cases e; exact mv
  have keep : ∀ b, b ≠ a → ∀ v, c.H b = some v → upd c.H a u' b = some v := fun b e v z => by rw [upd_ne e]; exact z
  refine ⟨fun i x e => ?_, fun i x e => ?_, r.gl, r.wl, r.gi, r.wi, r.gw⟩
  · obtain ⟨b, e1, q⟩ := r.g i x e
    exact ⟨b, e1, q.up (fun _ _ z => z) (fun _ _ z => z) st (fun v z => keep b (fun w => by subst w; exact no (.inl ⟨i, x, e, e1⟩)) v z) (fun d z => own b d z)⟩
  · obtain ⟨b, e1, q⟩ := r.w i x e
    exact ⟨b, e1, q.up (fun _ _ z => z) (fun _ _ z => z) st (fun v z => keep b (fun w => by subst w; exact no (.inr ⟨i, x, e, e1⟩)) v z) (fun d z => own b d z)⟩
theorem Stp.poke {c0 c : Cf} {a : Addr} {u' : HO} (s : Stp c0 c) (h : c0.H a = none ∨ c0.Own a) : Stp c0 { c with H := upd c.H a u' } :=
  ⟨s.m, s.o, s.own, fun b v e n => by
    show upd c.H a u' b = some v
    rw [upd_ne]
    · exact s.ext b v e n
    · intro z; subst z
      rcases h with h | h
      · rw [h] at e; cases e
      · exact n h⟩
/-- an object that stands unowned becomes the mirror's own -/
def Cf.adopt (c : Cf) (t : Addr) (x : G) : Cf := ⟨{ c.s with g := c.s.g ++ [some x] }, c.m ++ [t], c.o, c.H⟩
theorem Rel.adopt {Y : Md} {c : Cf} (r : Rel Y c) {t : Addr} {x : G} (n : ¬ c.Own t) (hx : RG Y (c.m ++ [t]) c.o c.H x t) : Rel Y (c.adopt t x) := by
  have hm : ∀ (i : Nat) (a : Addr), c.m[i]? = some a → (c.m ++ [t])[i]? = some a := fun i a h => get_app h
  have stH : Stay c.H c.H := fun a => ⟨fun _ z => z, fun _ _ z => z⟩
  have alive : ∀ (i : Nat) (y : G) (a : Addr), c.s.g[i]? = some (some y) → c.m[i]? = some a → a ≠ t := fun i y a h1 h2 z => by
    subst z
    exact n (.inl ⟨i, y, h1, h2⟩)
  have aliveW : ∀ (i : Nat) (y : G) (a : Addr), c.s.w[i]? = some (some y) → c.o[i]? = some a → a ≠ t := fun i y a h1 h2 z => by
    subst z
    exact n (.inr ⟨i, y, h1, h2⟩)
  have cas : ∀ (i : Nat) (y : G) (a : Addr), (c.s.g ++ [some x])[i]? = some (some y) → (c.m ++ [t])[i]? = some a → (c.s.g[i]? = some (some y) ∧ c.m[i]? = some a) ∨ (i = c.s.g.length ∧ a = t) := fun i y a h1 h2 => by
    rcases get_app_one h1 with g1 | ⟨e, _⟩
    · left
      rcases get_app_one h2 with g2 | ⟨e, _⟩
      · exact ⟨g1, g2⟩
      · have := (List.getElem?_eq_some_iff.mp g1).1
        rw [e, r.gl] at this; omega
    · right
      refine ⟨e, ?_⟩
      rcases get_app_one h2 with g2 | ⟨_, e2⟩
      · have := r.lt g2; omega
      · exact e2
  refine ⟨fun i y h => ?_, fun i y h => r.w i y h, by simp [Cf.adopt, r.gl], r.wl, fun i j y z a h1 h2 h3 h4 => ?_, r.wi, fun a h1 h2 => ?_⟩
  · rcases get_app_one h with g1 | ⟨e, ey⟩
    · obtain ⟨a, e, q⟩ := r.g i y g1
      exact ⟨a, get_app e, q.up hm (fun _ _ z => z) stH (fun v z => z) (fun d z => z)⟩
    · cases ey
      refine ⟨t, ?_, hx⟩
      show (c.m ++ [t])[i]? = some t
      rw [e, ← r.gl]; simp
  · rcases cas i y a h1 h3 with ⟨p1, p2⟩ | ⟨p1, p2⟩
    · rcases cas j z a h2 h4 with ⟨q1, q2⟩ | ⟨q1, q2⟩
      · exact r.gi i j y z a p1 q1 p2 q2
      · exact absurd q2 (alive i y a p1 p2)
    · rcases cas j z a h2 h4 with ⟨q1, q2⟩ | ⟨q1, q2⟩
      · exact absurd p2 (alive j z a q1 q2)
      · omega
  · obtain ⟨i, y, h1, h3⟩ := h1
    rcases cas i y a h1 h3 with ⟨p1, p2⟩ | ⟨p1, p2⟩
    · exact r.gw a ⟨i, y, p1, p2⟩ h2
    · obtain ⟨j, z, q1, q2⟩ := h2
      exact aliveW j z a q1 q2 p2
theorem Stp.adopt {Y : Md} {c0 c : Cf} (r : Rel Y c) (s : Stp c0 c) {t : Addr} {x : G} (n : c0.H t = none) : Stp c0 (c.adopt t x) where
  m := fun i a h => get_app (s.m i a h)
  o := s.o
  own := fun a h => by
    rcases h with ⟨i, y, h1, h2⟩ | h
    · rcases get_app_one h2 with g2 | ⟨_, e⟩
      · rcases get_app_one h1 with g1 | ⟨e, _⟩
        · exact s.own a (.inl ⟨i, y, g1, g2⟩)
        · have := r.lt g2; omega
      · subst e; exact .inr n
    · exact s.own a (.inr h)
  ext := s.ext

section
variable {X : Cx} {W : WX} {pos : Pos} {a b : Expr} {ma mb : ME}

/-! ### what is walked -/
def strItems (x : Str) : List D := x.cps.toList.map fun k => .p (.str ⟨#[k]⟩)
/-- any list, tuple or text -/
def srcOf (d : D) (s : S) : R Src := match d with
  | .p (.tuple ps) => .ok (.fix (ps.map .p)) s
  | .p (.list ps) => .ok (.fix (ps.map .p)) s
  | .p (.str x) => .ok (.fix (strItems x)) s
  | .ref i => match s.g[i]? with
    | some (some (.lst xs)) => .ok (.own i xs) s
    | _ => .bad
  | _ => .bad
def mSeq (ma : ME) : MI := fun env s => (ma env s).bind srcOf
theorem Paired.get {α β : Type} {F : α → β → Prop} {l₁ : List α} {l₂ : List β} (h : Paired F l₁ l₂) : ∀ {i : Nat} {x : α} {y : β}, l₁[i]? = some x → l₂[i]? = some y → F x y := by
  induction h with
  | nil => intro i x y e; simp at e
  | cons q t ih =>
    intro i x y e1 e2
    cases i with
    | zero => simp at e1 e2; subst e1; subst e2; exact q
    | succ i => simp at e1 e2; exact ih e1 e2
theorem Paired.get_ex {α β : Type} {F : α → β → Prop} {l₁ : List α} {l₂ : List β} (h : Paired F l₁ l₂) {i : Nat} {x : α} (e : l₁[i]? = some x) : ∃ y, l₂[i]? = some y ∧ F x y := by
  have hl := Paired.length h
  have h1 := (List.getElem?_eq_some_iff.mp e).1
  exact ⟨l₂[i]'(by omega), by simp [show i < l₂.length by omega], Paired.get h e (by simp [show i < l₂.length by omega])⟩
/-- a tuple's items -/
theorem rsrc_tup {Y : Md} {c0 : Cf} (r0 : Rel Y c0) {t : Addr} {vs : List V} {ds : List D} (h : SqT Y.K c0.H t vs) (q : RDs Y c0.m c0.o c0.H ds vs) : RSrc Y c0 (.fix ds) (Itt Y.K t) where
  stop := fun c st r _ => ⟨vs, (st.stay r0).sqT h, by show vs.length ≤ ds.length; rw [Paired.length q]; exact Nat.le_refl _⟩
  go := fun c i st r _ hi => ⟨vs, vs[i]'(by rw [← Paired.length q]; exact hi), (st.stay r0).sqT h, by simp [show i < vs.length by rw [← Paired.length q]; exact hi]⟩
  yld := fun c i x v H' st r _ hx y => by
    obtain ⟨e, y⟩ := y
    subst e
    have hv := y vs ((st.stay r0).sqT h)
    exact ⟨c, rfl, rfl, Stp.refl, r, (Paired.get q hx hv).step r0 st⟩
theorem rsrc_lst {Y : Md} {c0 : Cf} (r0 : Rel Y c0) {t : Addr} {vs : List V} {ds : List D} (h : FzL Y.K c0.H t vs) (q : RDs Y c0.m c0.o c0.H ds vs) : RSrc Y c0 (.fix ds) (Itl Y.K t) where
  stop := fun c st r _ => ⟨vs, ((st.stay r0).fzL h).sq, by show vs.length ≤ ds.length; rw [Paired.length q]; exact Nat.le_refl _⟩
  go := fun c i st r _ hi => ⟨vs, vs[i]'(by rw [← Paired.length q]; exact hi), ((st.stay r0).fzL h).sq, by simp [show i < vs.length by rw [← Paired.length q]; exact hi]⟩
  yld := fun c i x v H' st r _ hx y => by
    obtain ⟨e, y⟩ := y
    subst e
    have hv := y vs ((st.stay r0).fzL h).sq
    exact ⟨c, rfl, rfl, Stp.refl, r, (Paired.get q hx hv).step r0 st⟩
theorem rsrc_own {Y : Md} {c0 : Cf} (r0 : Rel Y c0) {i : Nat} {t : Addr} {ds : List D} (ht : c0.m[i]? = some t) : RSrc Y c0 (.own i ds) (Itl Y.K t) where
  stop := fun c st r ok => by
    obtain ⟨t', e, vs, e2, q⟩ := r.g i _ ok
    rw [st.m i t ht] at e; cases e
    exact ⟨vs, SqL.of e2, by show vs.length ≤ ds.length; rw [Paired.length q]; exact Nat.le_refl _⟩
  go := fun c j st r ok hj => by
    obtain ⟨t', e, vs, e2, q⟩ := r.g i _ ok
    rw [st.m i t ht] at e; cases e
    have hl : j < vs.length := by rw [← Paired.length q]; exact hj
    exact ⟨vs, vs[j], SqL.of e2, by simp [hl]⟩
  yld := fun c j x v H' st r ok hx y => by
    obtain ⟨t', e, vs, e2, q⟩ := r.g i _ ok
    rw [st.m i t ht] at e; cases e
    obtain ⟨e3, y⟩ := y
    subst e3
    have hv := y vs (SqL.of e2)
    exact ⟨c, rfl, rfl, Stp.refl, r, Paired.get q hx hv⟩
theorem rsrc_str {Y : Md} {c0 : Cf} {x : Str} : RSrc Y c0 (.fix (strItems x)) (Its x) := by
  have hl : (strItems x).length = x.cps.size := by simp [strItems]
  refine ⟨fun c st r _ => ?_, fun c i st r _ hi => ?_, fun c i y v H' st r _ hx yl => ?_⟩
  · show (Its x).stop (strItems x).length c.H
    rw [hl]
    exact (walk_str (z := x)).stops c.H trivial
  · exact (walk_str (z := x)).goes i c.H (by rw [← hl]; exact hi) trivial
  · have hi : i < x.cps.size := by rw [← hl]; exact (List.getElem?_eq_some_iff.mp hx).1
    obtain ⟨e, k, ek, ev⟩ := (walk_str (z := x)).yields i c.H v H' hi trivial yl
    subst e
    refine ⟨c, rfl, rfl, Stp.refl, r, ?_⟩
    simp only [Src.items, strItems, List.getElem?_map, Option.map_eq_some_iff, Array.getElem?_toList] at hx
    obtain ⟨k', e1, e2⟩ := hx
    rw [ek] at e1; cases e1
    subst e2
    subst ev
    simp [RD, RP]
theorem i_seq {tg : Expr} (ha : PE X a (LE X W ma)) : PI X tg a (LI X W (mSeq ma)) := by
  refine ⟨fun pins s σ H R I ⟨env, c, e, re, r, h⟩ => ?_⟩
  cases hd : ma env c.s with
  | ex x fs s1 =>
    unfold mSeq at h
    rw [hd] at h
    exact (pi_list ha).run pins s σ H R I ⟨env, c, e, re, r, by rw [hd]; exact h⟩
  | bad => unfold mSeq at h; rw [hd] at h; exact h.elim
  | ok d s1 =>
    unfold mSeq at h
    rw [hd] at h
    simp only [Mp.R.bind_ok] at h
    cases d with
    | well i => exact h.elim
    | fn x => exact h.elim
    | ref i =>
      unfold srcOf at h
      simp only at h
      split at h
      · rename_i xs ex
        refine (pi_list ha).run pins s σ H R I ⟨env, c, e, re, r, ?_⟩
        rw [hd]
        intro v c1 e1 s1' r1 q1
        obtain ⟨t, et, rfl⟩ := q1
        obtain ⟨t', et', vs, e2, q2⟩ := r1.g i (.lst xs) (by rw [e1]; exact ex)
        rw [et] at et'; cases et'
        exact ⟨t, rfl, ⟨vs, SqL.of e2⟩, h _ c1 e1 s1' r1 (rsrc_own r1 et)⟩
      · exact h.elim
    | p x =>
      cases x with
      | tuple ps =>
        refine (pi_tup ha).run pins s σ H R I ⟨env, c, e, re, r, ?_⟩
        rw [hd]
        intro v c1 e1 s1' r1 q1
        have q : RP X.K c1.H (.tuple ps) v := q1
        simp only [RP] at q
        obtain ⟨t, vs, rfl, h1, h2⟩ := q
        exact ⟨t, rfl, ⟨vs, h1⟩, h _ c1 e1 s1' r1 (rsrc_tup r1 h1 h2.rds)⟩
      | list ps =>
        refine (pi_list ha).run pins s σ H R I ⟨env, c, e, re, r, ?_⟩
        rw [hd]
        intro v c1 e1 s1' r1 q1
        have q : RP X.K c1.H (.list ps) v := q1
        simp only [RP] at q
        obtain ⟨t, vs, rfl, h1, h2⟩ := q
        exact ⟨t, rfl, ⟨vs, h1.sq⟩, h _ c1 e1 s1' r1 (rsrc_lst r1 h1 h2.rds)⟩
      | str z =>
        refine (pi_str ha).run pins s σ H R I ⟨env, c, e, re, r, ?_⟩
        rw [hd]
        intro v c1 e1 s1' r1 q1
        have q : RP X.K c1.H (.str z) v := q1
        simp only [RP] at q
        subst q
        exact ⟨z, rfl, h _ c1 e1 s1' r1 rsrc_str⟩
      | none => exact h.elim
      | bool k => exact h.elim
      | int k => exact h.elim
      | dict k => exact h.elim
/-- range(n), range(lo, hi) -/
def rngItems (lo : Int) (n : Nat) : List D := (List.range n).map fun (k : Nat) => .p (.int (lo + (k : Int)))
def rngOk (i j : Int) : Prop := -(2 ^ 62) ≤ i ∧ i < 2 ^ 62 ∧ -(2 ^ 62) ≤ j ∧ j < 2 ^ 62
instance (i j : Int) : Decidable (rngOk i j) := by unfold rngOk; exact inferInstance
def mRange1 (ma : ME) : MI := fun env s => (ma env s).bind fun d s1 => match d with
  | .p (.int j) => if rngOk 0 j then .ok (.fix (rngItems 0 j.toNat)) s1 else .bad
  | _ => .bad
def mRange2 (ma mb : ME) : MI := fun env s => (ma env s).bind fun d1 s1 => (mb env s1).bind fun d2 s2 => match d1, d2 with
  | .p (.int i), .p (.int j) => if rngOk i j then .ok (.fix (rngItems i (j - i).toNat)) s2 else .bad
  | _, _ => .bad
theorem rsrc_rng {Y : Md} {c0 : Cf} {lo : Int} {n : Nat} : RSrc Y c0 (.fix (rngItems lo n)) (Itr lo n) := by
  have hl : (rngItems lo n).length = n := by simp [rngItems]
  refine ⟨fun c st r _ => ?_, fun c i st r _ hi => ?_, fun c i y v H' st r _ hx yl => ?_⟩
  · show n ≤ (rngItems lo n).length
    rw [hl]; exact Nat.le_refl _
  · show i < n
    rw [← hl]; exact hi
  · obtain ⟨e, ev⟩ := yl
    subst e
    refine ⟨c, rfl, rfl, Stp.refl, r, ?_⟩
    simp only [Src.items, rngItems, List.getElem?_map, Option.map_eq_some_iff, List.getElem?_range'] at hx
    obtain ⟨k', e1, e2⟩ := hx
    have hi : i < n := by
      have := (List.getElem?_eq_some_iff.mp e1).1
      simpa using this
    rw [List.getElem?_range hi] at e1
    cases e1
    subst e2
    subst ev
    show RP Y.K c.H (.int (lo + (i : Int))) (.int (lo + (i : Int)))
    simp [RP]
theorem a_one (ha : PE X a (LE X W ma)) (hst : starEach [a] X.env = [(false, eval a X.env)] := by rfl) {σ : L2.St} {H : Hp} {Q : List V → Hp → Prop} {env : Env1} {c : Cf} {α β : Type} {RA : Cf → α → β → Prop} {f : D → S → R α} {Q' : β → Hp → Prop} (e : c.H = H) (re : RE (yx X) c env σ) (r : Rel (yx X) c)
    (h : Post (yx X) RA (fun cv dx H' => W cv dx σ H') c ((ma env c.s).bind f) Q') (k : ∀ d v c1, Stp c c1 → Rel (yx X) c1 → rd (yx X) c1 d v → Post (yx X) RA (fun cv dx H' => W cv dx σ H') c1 (f d c1.s) Q' → Q [v] c1.H) : LA X W (mCons ma mNil) σ H Q := by
  refine ⟨env, c, e, re, r, ?_⟩
  cases hd : ma env c.s with
  | ok d s1 =>
    rw [hd] at h
    unfold mCons mNil
    rw [hd]
    intro vs c1 e1 s01 r1 q
    cases q with
    | cons q t =>
      cases t
      exact k d _ c1 s01 r1 q (by rw [e1]; exact h.step s01)
  | ex x fs s1 => rw [hd] at h; unfold mCons; rw [hd]; exact h
  | bad => rw [hd] at h; exact h.elim
theorem i_range1 {tg : Expr} {p : Pos} (hg : Gl X "range") (hm : X.mg "range" = none) (ha : PE X a (LE X W ma)) (hs : starEach [a] X.env = [(false, eval a X.env)] := by rfl) : PI X tg (.Call (.Name "range" p) [a] [] pos) (LI X W (mRange1 ma)) := by
  refine (pi_range1 hg hm (a_cons ha a_nil hs) hs).imp fun σ H R ⟨env, c, e, re, r, h⟩ => a_one ha hs e re r h fun d v c1 s1 r1 q1 h1 => ?_
  split at h1
  · rename_i j
    have q : RP X.K c1.H (.int j) v := q1
    simp only [RP] at q
    subst q
    split at h1
    · rename_i hj
      exact ⟨j, rfl, hj.2.2.1, hj.2.2.2, h1.here r1 rsrc_rng⟩
    · exact h1.elim
  · exact h1.elim
theorem i_range2 {tg : Expr} {p : Pos} (hg : Gl X "range") (hm : X.mg "range" = none) (ha : PE X a (LE X W ma)) (hb : PE X b (LE X W mb)) (hs : starEach [a, b] X.env = [(false, eval a X.env), (false, eval b X.env)] := by rfl) (hs2 : starEach [b] X.env = [(false, eval b X.env)] := by rfl) :
    PI X tg (.Call (.Name "range" p) [a, b] [] pos) (LI X W (mRange2 ma mb)) := by
  refine (pi_range2 hg hm (pa_cons ha (pa_cons hb pa_nil (by rw [hs2]; rfl)) (by rw [hs, hs2])) hs hs2).imp fun σ H R ⟨env, c, e, re, r, h⟩ => ⟨env, c, e, re, r, h.bind fun d1 v1 c1 s1 r1 q1 h1 => ⟨env, c1, rfl, re.step r s1, r1, h1.bind fun d2 v2 c2 s2 r2 q2 h2 => ?_⟩⟩
  split at h2
  · rename_i i j
    have q : RP X.K c2.H (.int i) v1 := q1.step r1 s2
    have q' : RP X.K c2.H (.int j) v2 := q2
    simp only [RP] at q q'
    subst q
    subst q'
    split at h2
    · rename_i hj
      exact ⟨i, j, rfl, hj, h2.here r2 rsrc_rng⟩
    · exact h2.elim
  · exact h2.elim
end
end Mp

/-! MP, part F: list comprehensions; enumerate, zip. -/
namespace Mp
open PySem PySem.Spec PyProof.Rows L2

/-! ### slots forgotten -/
def wipeE (env : Env1) : List Nat → Env1
  | [] => env
  | v :: vs => (wipeE env vs).set v none
theorem RE.wipe {Y : Md} {c : Cf} {env : Env1} {σ : L2.St} (h : RE Y c env σ) : ∀ vs : List Nat, RE Y c (wipeE env vs) (wipe σ vs)
  | [] => h
  | v :: vs => (RE.wipe h vs).unset v
theorem wipe_get (σ : L2.St) (j : Nat) : ∀ vs : List Nat, (wipe σ vs)[j]? = if j ∈ vs ∧ j < σ.length then some none else σ[j]?
  | [] => by simp [wipe]
  | v :: vs => by
    unfold wipe
    by_cases e : j = v
    · subst e
      by_cases hl : j < σ.length
      · rw [List.getElem?_set_self (by rw [wipe_length]; exact hl), if_pos ⟨List.mem_cons_self, hl⟩]
      · rw [if_neg (fun q => hl q.2)]
        rw [List.getElem?_eq_none (by rw [List.length_set, wipe_length]; omega), List.getElem?_eq_none (by omega)]
    · rw [List.getElem?_set_ne (Ne.symm e), wipe_get σ j vs]
      simp [e]
theorem wipe_same {σ τ : L2.St} {vs : List Nat} (hl : τ.length = σ.length) (h : ∀ j, j ∉ vs → τ[j]? = σ[j]?) : wipe τ vs = wipe σ vs := by
  apply List.ext_getElem?
  intro j
  rw [wipe_get, wipe_get, hl]
  by_cases e : j ∈ vs
  · by_cases hj : j < σ.length
    · rw [if_pos ⟨e, hj⟩, if_pos ⟨e, hj⟩]
    · rw [if_neg (fun q => hj q.2), if_neg (fun q => hj q.2), List.getElem?_eq_none (by omega), List.getElem?_eq_none (by omega)]
  · rw [if_neg (fun q => e q.1), if_neg (fun q => e q.1), h j e]
theorem wipe_wipe {σ : L2.St} {vs : List Nat} : wipe (wipe σ vs) vs = wipe σ vs := wipe_same (wipe_length σ vs) fun j hj => by rw [wipe_get, if_neg fun q => hj q.1]

/-! ### targets of a comprehension -/
def TgOk (Y : Md) (t : TG) (g : MG) (vs : List Nat) : Prop := ∀ (σ : L2.St) (env : Env1) (c : Cf) (d : D) (v : V) (WE : Value → Option Addr → Hp → Prop) (Q : L2.St → Hp → Prop), RE Y c env (wipe σ vs) → Rel Y c → rd Y c d v →
  Post Y (RE Y) WE c (g d env c.s) Q → t v (wipe σ vs) c.H fun σ2 H2 => wipe σ2 vs = wipe σ vs ∧ Q σ2 H2
theorem tg_name {Y : Md} {i : Nat} {vs : List Nat} (hi : i ∈ vs) : TgOk Y (gName i) (gSet i) vs := fun σ env c d v WE Q re r q h => by
  refine ⟨?_, h.here r (re.set i q)⟩
  refine (wipe_same (σ := wipe σ vs) (by simp) fun j hj => ?_).trans wipe_wipe
  exact List.getElem?_set_ne (fun e => hj (by rw [← e]; exact hi))
def tgs : List Nat → TGs
  | [] => gNil
  | i :: is => gCons (gName i) (tgs is)
def mgs : List Nat → List D → Env1 → S → R Env1
  | [] => gNone
  | i :: is => gMore (gSet i) (mgs is)
theorem tgs_ok {Y : Md} {WE : Value → Option Addr → Hp → Prop} {c : Cf} (r : Rel Y c) : ∀ {is : List Nat} {σ : L2.St} {env : Env1} {ds : List D} {vs : List V} {Q : L2.St → Hp → Prop}, RE Y c env σ → rds Y c ds vs → Post Y (RE Y) WE c (mgs is ds env c.s) Q →
    tgs is vs σ c.H fun σ2 H2 => (σ2.length = σ.length ∧ ∀ j, j ∉ is → σ2[j]? = σ[j]?) ∧ Q σ2 H2
  | [], σ, env, ds, vs, Q, re, q, h => by
    cases q with
    | nil => exact ⟨rfl, ⟨rfl, fun _ _ => rfl⟩, h.here r re⟩
    | cons _ _ => exact h.elim
  | i :: is, σ, env, ds, vs, Q, re, q, h => by
    cases q with
    | nil => exact h.elim
    | cons q qr =>
      refine ⟨_, _, rfl, ?_⟩
      have h' := tgs_ok (WE := WE) (Q := Q) r (is := is) (re.set i q) qr h
      have gen : ∀ (t : TGs) (vs : List V) (σ : L2.St) (H : Hp) (Q Q' : L2.St → Hp → Prop), (∀ a b, Q a b → Q' a b) → (∃ is, t = tgs is) → t vs σ H Q → t vs σ H Q' := by
        rintro t vs σ H Q Q' i ⟨is, rfl⟩
        induction is generalizing vs σ H with
        | nil => exact fun ⟨e, q⟩ => ⟨e, i _ _ q⟩
        | cons j js ih => exact fun ⟨v, rr, e, q⟩ => ⟨v, rr, e, ih _ _ _ q⟩
      refine gen _ _ _ _ _ _ (fun σ2 H2 ⟨⟨h1, h2⟩, h3⟩ => ⟨⟨by rw [h1]; simp, fun j hj => ?_⟩, h3⟩) ⟨is, rfl⟩ h'
      rw [h2 j fun z => hj (List.mem_cons_of_mem _ z)]
      exact List.getElem?_set_ne fun e => hj (by rw [← e]; exact List.mem_cons_self)
theorem tg_tup {Y : Md} {is vs : List Nat} {n : Nat} (hi : ∀ i ∈ is, i ∈ vs) : TgOk Y (L2.gTup Y.K n (tgs is)) (gTup n (mgs is)) vs := fun σ env c d v WE Q re r q h => by
  unfold gTup at h
  split at h
  · rename_i ps
    split at h
    · rename_i hl
      have q' : RP Y.K c.H (.tuple ps) v := q
      simp only [RP] at q'
      obtain ⟨t, us, rfl, h1, h2⟩ := q'
      refine ⟨t, us, rfl, h1, by rw [← h2.length]; exact hl, ?_⟩
      have h' := tgs_ok (WE := WE) r (is := is) re h2.rds h
      have gen : ∀ (is : List Nat) (us : List V) (σ : L2.St) (H : Hp) (Q Q' : L2.St → Hp → Prop), (∀ a b, Q a b → Q' a b) → tgs is us σ H Q → tgs is us σ H Q' := by
        intro is us σ H Q Q' i
        induction is generalizing us σ H with
        | nil => exact fun ⟨e, q⟩ => ⟨e, i _ _ q⟩
        | cons j js ih => exact fun ⟨v, rr, e, q⟩ => ⟨v, rr, e, ih _ _ _ q⟩
      refine gen _ _ _ _ _ _ (fun σ2 H2 ⟨⟨e1, e2⟩, e3⟩ => ⟨?_, e3⟩) h'
      exact (wipe_same (σ := wipe σ vs) e1 fun j hj => e2 j fun z => hj (hi j z)).trans wipe_wipe
    · exact h.elim
  · exact h.elim

/-! ### list comprehensions -/
/-- nothing is raised -/
abbrev wNo : WX := fun _ _ _ _ => False
/-- nothing may be raised within -/
def noex {α : Type} : R α → R α
  | .ok a s => .ok a s
  | _ => .bad
@[simp] theorem noex_ok {α : Type} {a : α} {s : S} : noex (R.ok a s) = .ok a s := rfl
theorem Post.bindN {α β γ δ : Type} {Y : Md} {RA : Cf → α → β → Prop} {RC : Cf → γ → δ → Prop} {WE WE' : Value → Option Addr → Hp → Prop} {c0 c : Cf} {ra : R α} {f : α → S → R γ} {Q : δ → Hp → Prop} {Q1 : β → Hp → Prop} (h : Post Y RC WE c0 ((noex ra).bind f) Q)
    (k : ∀ a b c1, Stp c c1 → Rel Y c1 → RA c1 a b → Post Y RC WE c0 (f a c1.s) Q → Q1 b c1.H) : Post Y RA WE' c ra Q1 := by
  cases ra with
  | ok a s' => exact fun b c2 e s2 r2 ra => k a b c2 s2 r2 ra (by rw [e]; exact h)
  | ex x fs s' => exact h.elim
  | bad => exact h
open Classical in
/-- the items of the new list, from the items that are left -/
noncomputable def lcL (ok : S → Prop) (g : MG) (tt : MT) (me : ME) (env0 : Env1) : List D → S → R (List D)
  | [], s => if ok s then .ok [] s else .bad
  | x :: xs, s => if ok s then (noex (g x env0 s)).bind fun env1 s1 => (noex (tt env1 s1)).bind fun b s2 =>
      if b then (noex (me env1 s2)).bind fun d s3 => (lcL ok g tt me env0 xs s3).bind fun ds s4 => .ok (d :: ds) s4
      else lcL ok g tt me env0 xs s2
    else .bad
open Classical in
noncomputable def lcK (ok : S → Prop) (g : MG) (tt : MT) (me : ME) (env0 : Env1) (k : List D → S → R D) : List D → List D → S → R D
  | [], acc, s => if ok s then k acc s else .bad
  | x :: xs, acc, s => if ok s then (noex (g x env0 s)).bind fun env1 s1 => (noex (tt env1 s1)).bind fun b s2 =>
      if b then (noex (me env1 s2)).bind fun d s3 => lcK ok g tt me env0 k xs (acc ++ [d]) s3
      else lcK ok g tt me env0 k xs acc s2
    else .bad
theorem lcK_eq {ok : S → Prop} {g : MG} {tt : MT} {me : ME} {env0 : Env1} {k : List D → S → R D} : ∀ {xs acc : List D} {s : S}, (lcL ok g tt me env0 xs s).bind (fun ds s' => k (acc ++ ds) s') = lcK ok g tt me env0 k xs acc s
  | [], acc, s => by
    unfold lcL lcK
    split
    · simp
    · rfl
  | x :: xs, acc, s => by
    unfold lcL lcK
    split
    · rw [R.bind_assoc]
      congr 1
      funext env1 s1
      rw [R.bind_assoc]
      congr 1
      funext b s2
      split
      · rw [R.bind_assoc]
        congr 1
        funext d s3
        rw [R.bind_assoc, ← lcK_eq (xs := xs) (acc := acc ++ [d])]
        congr 1
        funext ds s4
        simp
      · exact lcK_eq
    · rfl
def mYes : MT := fun _ s => .ok true s
noncomputable def mLc (mi : MI) (vs : List Nat) (g : MG) (tt : MT) (me : ME) (k : List D → S → R D) : ME := fun env s => (mi env s).bind fun src s1 =>
  if sizeOk src.items.length then (lcL src.ok g tt me (wipeE env vs) src.items s1).bind k else .bad
theorem lc_turns {X : Cx} {W : WX} {src : Src} {J : It} {t : TG} {g : MG} {tt : MT} {me : ME} {vs : List Nat} {c0 : Cf} (rs : RSrc (yx X) c0 src J) (tg : TgOk (yx X) t g vs) {σ : L2.St} {env : Env1} (re : RE (yx X) c0 env σ) (r : Rel (yx X) c0) {k : List D → S → R D} {WE : Value → Option Addr → Hp → Prop} {Qf Q : VK} {Dl : Addr} (nD : c0.H Dl = none)
    (hz : sizeOk src.items.length = true) (h : Post (yx X) (rd (yx X)) WE c0 ((lcL src.ok g tt me (wipeE env vs) src.items c0.s).bind k) Qf)
    (fin : ∀ c ds us, Stp c0 c → Rel (yx X) c → c.H Dl = some (.lst us) → ¬ c.Own Dl → rds (yx X) c ds us → Post (yx X) (rd (yx X)) WE c0 (k ds c.s) Qf → Q (.ref Dl) c.H) :
    ∃ Wm : Nat → Nat → Hp → Prop, (∃ m, Wm 0 m (upd c0.H Dl (.lst []))) ∧ ∀ i m H, Wm i m H →
      (J.stop i H ∧ Q (.ref Dl) H) ∨ (J.go i H ∧ ∃ Nx : Hp → Prop, (∀ H', Nx H' → ∃ m', m' < m ∧ Wm (i + 1) m' H') ∧ ∀ x H', J.yld i H x H' → t x (wipe σ vs) H' fun σ2 H2 => wipe σ2 vs = wipe σ vs ∧ LT X W tt σ2 H2 fun b H3 =>
        if b = true then LE X W me σ2 H3 fun y H4 => ∃ acc, H4 Dl = some (.lst acc) ∧ acc.length < sizeLine ∧ Nx (upd H4 Dl (.lst (acc ++ [y]))) else Nx H3) := by
  have hz' : src.items.length ≤ sizeLine := of_decide_eq_true hz
  have e0 := lcK_eq (ok := src.ok) (g := g) (tt := tt) (me := me) (env0 := wipeE env vs) (k := k) (xs := src.items) (acc := []) (s := c0.s)
  simp only [List.nil_append] at e0
  rw [show (fun ds s' => k ds s') = k from rfl] at e0
  rw [e0] at h
  let St := fun (i : Nat) (H : Hp) (xs : List D) => ∃ c accD accV, c.H = H ∧ Stp c0 c ∧ Rel (yx X) c ∧ c.H Dl = some (.lst accV) ∧ ¬ c.Own Dl ∧ rds (yx X) c accD accV ∧ accD.length ≤ i ∧ RE (yx X) c (wipeE env vs) (wipe σ vs) ∧
    Post (yx X) (rd (yx X)) WE c0 (lcK src.ok g tt me (wipeE env vs) k xs accD c.s) Qf
  refine ⟨fun i m H => i ≤ src.items.length ∧ m = src.items.length - i ∧ St i H (src.items.drop i),
    ⟨_, Nat.zero_le _, rfl, c0.at Dl (.lst []), [], [], rfl, Stp.at nD, r.at nD, upd_same, r.freshOwn nD, .nil, Nat.le_refl _, ((re.wipe vs).step r (Stp.at nD)), by simpa [Cf.at] using h⟩, ?_⟩
  rintro i m H ⟨hi, rfl, c, accD, accV, rfl, st, rc, hD, nO, qa, la, rew, h⟩
  by_cases hlt : i < src.items.length
  · right
    rw [List.drop_eq_getElem_cons hlt] at h
    simp only [lcK] at h
    split at h
    · rename_i ok
      refine ⟨rs.go c i st rc ok hlt, fun H' => St (i + 1) H' (src.items.drop (i + 1)), fun H' hs => ⟨_, by omega, hlt, rfl, hs⟩, fun v H' y => ?_⟩
      obtain ⟨c1, rfl, e1, s1, r1, q1⟩ := rs.yld c i _ v H' st rc ok (List.getElem?_eq_getElem hlt) y
      have keepD : ∀ {c2 : Cf}, Stp c c2 → c2.H Dl = some (.lst accV) ∧ ¬ c2.Own Dl := fun {c2} s => ⟨s.ext Dl _ hD nO, fun z => by
        rcases s.own Dl z with z | z
        · exact nO z
        · rw [hD] at z; cases z⟩
      rw [← e1] at h
      refine tg σ _ c1 _ v WE _ (rew.step rc s1) r1 q1 (h.bindN fun env2 σ2 c2 s2 r2 re2 h2 => ⟨env2, c2, rfl, re2, r2, h2.bindN fun b b' c3 s3 r3 q3 h3 => ?_⟩)
      cases q3
      have s03 := (s1.trans s2).trans s3
      cases b with
      | true =>
        refine iteT ⟨env2, c3, rfl, re2.step r2 s3, r3, ?_⟩
        simp only [if_true] at h3
        refine h3.bindN fun d u c4 s4 r4 q4 h4 => ?_
        have s04 := s03.trans s4
        obtain ⟨hD4, nO4⟩ := keepD s04
        have la4 : accV.length < sizeLine := by rw [← Paired.length qa]; omega
        refine ⟨accV, hD4, la4, ?_⟩
        have r5 := r4.poke (u' := .lst (accV ++ [u])) hD4 trivial nO4
        have st5 := (st.trans s04).poke (a := Dl) (u' := .lst (accV ++ [u])) (.inl nD)
        have stay5 : Stay c4.H (upd c4.H Dl (.lst (accV ++ [u]))) := fun a => by
          refine ⟨fun xs e => ?_, fun o w e => ?_⟩
          · rw [upd_ne]
            · exact e
            · intro z; subst z; rw [hD4] at e; cases e
          · rw [upd_ne]
            · exact e
            · intro z; subst z; rw [hD4] at e; cases e
        refine ⟨{ c4 with H := upd c4.H Dl (.lst (accV ++ [u])) }, accD ++ [d], accV ++ [u], rfl, st5, r5, upd_same, nO4, ?_, by simp; omega, ?_, h4⟩
        · have qa4 := RDs.step rc s04 qa
          have app : ∀ {l1 l2 : List D} {m1 m2 : List V} {F : D → V → Prop}, Paired F l1 m1 → Paired F l2 m2 → Paired F (l1 ++ l2) (m1 ++ m2) := by
            intro l1 l2 m1 m2 F p1 p2
            induction p1 with
            | nil => exact p2
            | cons q t ih => exact .cons q ih
          exact RDs.up (fun _ _ z => z) (fun _ _ z => z) stay5 (app qa4 (.cons q4 .nil))
        · exact ⟨rew.1.trans (by simp), fun j d' e => let ⟨w, e1, z⟩ := (rew.step rc s04).2 j d' e; ⟨w, e1, z.up (fun _ _ y => y) (fun _ _ y => y) stay5⟩⟩
      | false =>
        refine iteF ?_
        simp only [Bool.false_eq_true, if_false] at h3
        obtain ⟨hD3, nO3⟩ := keepD s03
        exact ⟨c3, accD, accV, rfl, st.trans s03, r3, hD3, nO3, RDs.step rc s03 qa, by omega, rew.step rc s03, h3⟩
    · exact h.elim
  · left
    have e : i = src.items.length := by omega
    subst e
    rw [List.drop_length] at h
    simp only [lcK] at h
    split at h
    · rename_i ok
      exact ⟨rs.stop c st rc ok, fin c accD accV st rc hD nO qa h⟩
    · exact h.elim
/-- the new list frozen -/
def kFrz : List D → S → R D := fun ds s => match allP ds with
  | some ps => .ok (.p (.list ps)) s
  | none => .bad
/-- the new list an own one -/
def kOwn : List D → S → R D := fun ds s => .ok (.ref s.g.length) { s with g := s.g ++ [some (.lst ds)] }
section
variable {X : Cx} {W : WX} {pos : Pos}
theorem tLc_own {wi : TI} {mi : MI} {t : TG} {g : MG} {tt : MT} {me : ME} {vs : List Nat} (tg : TgOk (yx X) t g vs) {σ : L2.St} {H : Hp} {Q : VK} (h : LE X W (mLc mi vs g tt me kOwn) σ H Q) :
    tLc (LI X W mi) t (LT X wNo tt) (LE X wNo me) vs σ H Q := by
  obtain ⟨env, c, e, re, r, h⟩ := h
  refine ⟨env, c, e, re, r, h.bind fun src J c1 s1 r1 rs h1 => fun Dl nD => ?_⟩
  split at h1
  · rename_i hz
    refine lc_turns rs tg (re.step r s1) r1 nD hz h1 fun c2 ds us st r2 hD nO qd h2 => ?_
    have hg : (c2.m ++ [Dl])[c2.s.g.length]? = some Dl := by rw [← r2.gl]; simp
    exact h2 (.ref Dl) (c2.adopt Dl (.lst ds)) rfl (st.adopt r2 nD) (r2.adopt nO ⟨us, hD, RDs.up (fun i a e => get_app e) (fun _ _ z => z) (fun a => ⟨fun _ z => z, fun _ _ z => z⟩) qd⟩) ⟨Dl, hg, rfl⟩
  · exact h1.elim
theorem tLc_frz {wi : TI} {mi : MI} {t : TG} {g : MG} {tt : MT} {me : ME} {vs : List Nat} (tg : TgOk (yx X) t g vs) {σ : L2.St} {H : Hp} {Q : VK} (h : LE X W (mLc mi vs g tt me kFrz) σ H Q) :
    tLc (LI X W mi) t (LT X wNo tt) (LE X wNo me) vs σ H fun v H' => FZ (Q v) H' := by
  obtain ⟨env, c, e, re, r, h⟩ := h
  refine ⟨env, c, e, re, r, h.bind fun src J c1 s1 r1 rs h1 => fun Dl nD => ?_⟩
  split at h1
  · rename_i hz
    refine lc_turns (W := wNo) (Q := fun v H' => FZ (Q v) H') rs tg (re.step r s1) r1 nD hz h1 fun c2 ds us st r2 hD nO qd h2 => ?_
    unfold kFrz at h2
    cases ea : allP ds with
    | none => rw [ea] at h2; exact h2.elim
    | some ps =>
      rw [ea] at h2
      refine .one Dl (.lst us) hD trivial fun o => .done ?_
      have stay : Stay c2.H (upd c2.H Dl (.frz o (.lst us))) := fun a => by
        refine ⟨fun xs e => ?_, fun o w e => ?_⟩
        · rw [upd_ne]
          · exact e
          · intro z; subst z; rw [hD] at e; cases e
        · rw [upd_ne]
          · exact e
          · intro z; subst z; rw [hD] at e; cases e
      refine h2 (.ref Dl) { c2 with H := upd c2.H Dl (.frz o (.lst us)) } rfl (st.poke (.inl nD)) (r2.poke hD trivial nO) ?_
      show RP X.K (upd c2.H Dl (.frz o (.lst us))) (.list ps) (.ref Dl)
      simp only [RP]
      exact ⟨Dl, us, rfl, .inl ⟨o, upd_same⟩, RPs.stay stay (allP_ok qd ea)⟩
  · exact h1.elim
/-- the tests of a comprehension -/
theorem c_no {X : Cx} : PTs X [] (LT X wNo mYes) := ⟨fun pins s σ H Q I ⟨env, c, e, re, r, h⟩ => pts_nil.run pins s σ H Q I (by subst e; exact Post.here (Y := yx X) (RA := rb) (a := true) h r rfl)⟩
theorem c_if {X : Cx} {e : Expr} {mt : MT} (h : PT X e (LT X wNo mt)) : PTs X [e] (LT X wNo mt) := pts_one h
variable {elt tg iter : Expr} {ifs : List Expr} {scope : Scope} {own : List (Str × Nat)} {mi : MI} {t : TG} {g : MG} {tt : MT} {me : ME}
theorem e_lcO (hc : X.calm = true) (hN : X.N.Nodup) (hi : PI X tg iter (LI X W mi)) (ok : BlkOk X.N X.env.scope scope own) (tk : TgOk (yx X) t g (own.map (·.2)))
    (hg : ∀ (s : Shared) (H : Hp) (C : Addr) (cl : List (Str × Addr)) (fp : List Addr), PG (X.blk s H scope (compEnvC scope cl C X.env) fp) tg t)
    (ht : ∀ (s : Shared) (H : Hp) (C : Addr) (cl : List (Str × Addr)) (fp : List Addr), PTs (X.blk s H scope (compEnvC scope cl C X.env) fp) ifs (LT (X.blk s H scope (compEnvC scope cl C X.env) fp) wNo tt))
    (he : ∀ (s : Shared) (H : Hp) (C : Addr) (cl : List (Str × Addr)) (fp : List Addr), PE (X.blk s H scope (compEnvC scope cl C X.env) fp) elt (LE (X.blk s H scope (compEnvC scope cl C X.env) fp) wNo me)) (hs : ∀ x, foldedSetIterable iter X.env x = pure x := by intro _; rfl) :
    PE X (.ListComp elt [⟨tg, iter, ifs, 0⟩] scope pos) (LE X W (mLc mi (own.map (·.2)) g tt me kOwn)) :=
  (pe_lc hc hN hi ok hg ht he hs).imp fun σ H Q h => tLc_own (wi := LI X W mi) tk h
theorem e_lcF (hc : X.calm = true) (hN : X.N.Nodup) (hi : PI X tg iter (LI X W mi)) (ok : BlkOk X.N X.env.scope scope own) (tk : TgOk (yx X) t g (own.map (·.2)))
    (hg : ∀ (s : Shared) (H : Hp) (C : Addr) (cl : List (Str × Addr)) (fp : List Addr), PG (X.blk s H scope (compEnvC scope cl C X.env) fp) tg t)
    (ht : ∀ (s : Shared) (H : Hp) (C : Addr) (cl : List (Str × Addr)) (fp : List Addr), PTs (X.blk s H scope (compEnvC scope cl C X.env) fp) ifs (LT (X.blk s H scope (compEnvC scope cl C X.env) fp) wNo tt))
    (he : ∀ (s : Shared) (H : Hp) (C : Addr) (cl : List (Str × Addr)) (fp : List Addr), PE (X.blk s H scope (compEnvC scope cl C X.env) fp) elt (LE (X.blk s H scope (compEnvC scope cl C X.env) fp) wNo me)) (hs : ∀ x, foldedSetIterable iter X.env x = pure x := by intro _; rfl) :
    PE X (.ListComp elt [⟨tg, iter, ifs, 0⟩] scope pos) (LE X W (mLc mi (own.map (·.2)) g tt me kFrz)) :=
  ((pe_lc hc hN hi ok hg ht he hs).fz).imp fun σ H Q h => tLc_frz (wi := LI X W mi) tk h
/-- x = [..] on one line, x a local: an own list -/
theorem s_lcO {i : Nat} {y : Str} {py spos : Pos} (hc : X.calm = true) (hN : X.N.Nodup) (hy : X.N[i]? = some y) (hyl : X.env.scope.names.lookup y = some .local)
    (hsw : swapsWith (.ListComp elt [⟨tg, iter, ifs, 0⟩] scope pos) (some (.Name y py)) spos.line X.env = pure true) (hi : PI X tg iter (LI X W mi)) (ok : BlkOk X.N X.env.scope scope own) (tk : TgOk (yx X) t g (own.map (·.2)))
    (hg : ∀ (s : Shared) (H : Hp) (C : Addr) (cl : List (Str × Addr)) (fp : List Addr), PG (X.blk s H scope (compEnvC scope cl C X.env) fp) tg t)
    (ht : ∀ (s : Shared) (H : Hp) (C : Addr) (cl : List (Str × Addr)) (fp : List Addr), PTs (X.blk s H scope (compEnvC scope cl C X.env) fp) ifs (LT (X.blk s H scope (compEnvC scope cl C X.env) fp) wNo tt))
    (he : ∀ (s : Shared) (H : Hp) (C : Addr) (cl : List (Str × Addr)) (fp : List Addr), PE (X.blk s H scope (compEnvC scope cl C X.env) fp) elt (LE (X.blk s H scope (compEnvC scope cl C X.env) fp) wNo me)) (hs : ∀ x, foldedSetIterable iter X.env x = pure x := by intro _; rfl) :
    PS X (.Assign [.Name y py] (.ListComp elt [⟨tg, iter, ifs, 0⟩] scope pos) spos) (LS X W (sSet i (mLc mi (own.map (·.2)) g tt me kOwn))) :=
  (ps_setLc hc hN hy hyl hsw hi ok hg ht he hs).imp fun D σ H ⟨env, c, e, re, r, h⟩ =>
    tLc_own (wi := LI X W mi) tk ⟨env, c, e, re, r, h.bind (RA := rd (yx X)) re r fun d v c1 s1 r1 q1 h1 => h1 _ c1 rfl Stp.refl r1 ((re.step r s1).set i q1)⟩
end
end Mp

/-! MP, part G: operators and built-ins by values. -/
namespace Mp
open PySem PySem.Spec PyProof.Rows L2

/-- pure data in, pure data out -/
def ret1 (o : Option PyData) (s : S) : R D := match o with
  | some x => .ok (.p x) s
  | none => .bad
def pp2 (f : PyData → PyData → Option PyData) : D → D → S → R D := fun d1 d2 s => match d1, d2 with
  | .p a, .p b => ret1 (f a b) s
  | _, _ => .bad
def pp1 (f : PyData → Option PyData) : D → S → R D := fun d s => match d with
  | .p a => ret1 (f a) s
  | _ => .bad
@[simp] theorem ret1_some {x : PyData} {s : S} : ret1 (some x) s = .ok (.p x) s := rfl
@[simp] theorem ret1_none {s : S} : ret1 none s = .bad := rfl
/-- pure operators: what must be shown -/
theorem link_pp2 {Y : Md} {f : PyData → PyData → Option PyData} {r : R2} (h : ∀ (WE : Value → Option Addr → Hp → Prop) (c : Cf) (a b x : PyData) (v1 v2 : V) (Q : VK), Rel Y c → RP Y.K c.H a v1 → RP Y.K c.H b v2 → f a b = some x → Post Y (rd Y) WE c (.ok (.p x) c.s) Q → r v1 v2 c.H Q) : Link2 Y (pp2 f) r := by
  intro WE c d1 d2 v1 v2 Q rr q1 q2 hp
  unfold pp2 at hp
  split at hp
  · rename_i a b
    cases e : f a b with
    | none => rw [e] at hp; exact hp.elim
    | some x => rw [e] at hp; exact h WE c a b x v1 v2 Q rr q1 q2 e hp
  · exact hp.elim
theorem link_pp1 {Y : Md} {f : PyData → Option PyData} {r : V → Hp → VK → Prop} (h : ∀ (WE : Value → Option Addr → Hp → Prop) (c : Cf) (a x : PyData) (v1 : V) (Q : VK), Rel Y c → RP Y.K c.H a v1 → f a = some x → Post Y (rd Y) WE c (.ok (.p x) c.s) Q → r v1 c.H Q) : Link1 Y (pp1 f) r := by
  intro WE c d1 v1 Q rr q1 hp
  unfold pp1 at hp
  split at hp
  · rename_i a
    cases e : f a with
    | none => rw [e] at hp; exact hp.elim
    | some x => rw [e] at hp; exact h WE c a x v1 Q rr q1 e hp
  · exact hp.elim
theorem Post.p {Y : Md} {WE : Value → Option Addr → Hp → Prop} {c : Cf} {x : PyData} {v : V} {Q : VK} (h : Post Y (rd Y) WE c (.ok (.p x) c.s) Q) (r : Rel Y c) (q : RP Y.K c.H x v) : Q v c.H := Post.here (RA := rd Y) (a := D.p x) h r q
theorem rp_int {K : PySem.W.Frag} {H : Hp} {i : Int} {v : V} (h : RP K H (.int i) v) : v = .int i := by simpa [RP] using h
theorem rp_bool {K : PySem.W.Frag} {H : Hp} {i : Bool} {v : V} (h : RP K H (.bool i) v) : v = .bl i := by simpa [RP] using h
theorem rp_str {K : PySem.W.Frag} {H : Hp} {i : Str} {v : V} (h : RP K H (.str i) v) : v = .str i := by simpa [RP] using h
theorem rp_none {K : PySem.W.Frag} {H : Hp} {v : V} (h : RP K H .none v) : v = .non := by simpa [RP] using h
theorem rp_tup {K : PySem.W.Frag} {H : Hp} {ps : List PyData} {v : V} (h : RP K H (.tuple ps) v) : ∃ a vs, v = .ref a ∧ SqT K H a vs ∧ RPs K H ps vs := by simpa only [RP] using h
theorem rp_lst {K : PySem.W.Frag} {H : Hp} {ps : List PyData} {v : V} (h : RP K H (.list ps) v) : ∃ a vs, v = .ref a ∧ FzL K H a vs ∧ RPs K H ps vs := by simpa only [RP] using h
theorem rd_int {Y : Md} {c : Cf} {i : Int} {v : V} (h : rd Y c (.p (.int i)) v) : v = .int i := rp_int (K := Y.K) (H := c.H) h
theorem rd_bool {Y : Md} {c : Cf} {i : Bool} {v : V} (h : rd Y c (.p (.bool i)) v) : v = .bl i := rp_bool (K := Y.K) (H := c.H) h
theorem rd_str {Y : Md} {c : Cf} {i : Str} {v : V} (h : rd Y c (.p (.str i)) v) : v = .str i := rp_str (K := Y.K) (H := c.H) h
theorem rd_none {Y : Md} {c : Cf} {v : V} (h : rd Y c (.p .none) v) : v = .non := rp_none (K := Y.K) (H := c.H) h
theorem rd_tup {Y : Md} {c : Cf} {ps : List PyData} {v : V} (h : rd Y c (.p (.tuple ps)) v) : ∃ a vs, v = .ref a ∧ SqT Y.K c.H a vs ∧ RPs Y.K c.H ps vs := rp_tup (K := Y.K) (H := c.H) h
theorem rd_lst {Y : Md} {c : Cf} {ps : List PyData} {v : V} (h : rd Y c (.p (.list ps)) v) : ∃ a vs, v = .ref a ∧ FzL Y.K c.H a vs ∧ RPs Y.K c.H ps vs := rp_lst (K := Y.K) (H := c.H) h
theorem mk_int {K : PySem.W.Frag} {H : Hp} {i : Int} : RP K H (.int i) (.int i) := by simp [RP]
theorem mk_bool {K : PySem.W.Frag} {H : Hp} {i : Bool} : RP K H (.bool i) (.bl i) := by simp [RP]
theorem mk_str {K : PySem.W.Frag} {H : Hp} {i : Str} : RP K H (.str i) (.str i) := by simp [RP]
theorem mk_none {K : PySem.W.Frag} {H : Hp} : RP K H .none .non := by simp [RP]
theorem RPs.app {K : PySem.W.Frag} {H : Hp} : ∀ {ps qs : List PyData} {vs us : List V}, RPs K H ps vs → RPs K H qs us → RPs K H (ps ++ qs) (vs ++ us)
  | [], _, _, _, h, h2 => by simp only [RPs] at h; subst h; exact h2
  | p :: ps, _, _, _, h, h2 => by
    simp only [RPs] at h
    obtain ⟨v, r, rfl, h1, h3⟩ := h
    show RPs K H (p :: (ps ++ _)) _
    simp only [RPs]
    exact ⟨v, r ++ _, rfl, h1, RPs.app h3 h2⟩

/-! ### arithmetic -/
def iAdd : PyData → PyData → Option PyData
  | .int i, .int j => some (.int (i + j))
  | .str x, .str y => if sizeOk (x.length + y.length) then some (.str (x ++ y)) else none
  | _, _ => none
def iSub : PyData → PyData → Option PyData
  | .int i, .int j => some (.int (i - j))
  | _, _ => none
theorem o_sub {X : Cx} : Op2 X (binaryOp .Sub) (pp2 iSub) := ⟨_, op_sub, link_pp2 fun WE c a b x v1 v2 Q rr q1 q2 e h => by
  unfold iSub at e
  split at e
  · cases e
    exact ⟨_, _, rp_int q1, rp_int q2, h.p rr mk_int⟩
  · cases e⟩
theorem o_isub {X : Cx} : Op2 X (inplaceOp .Sub) (pp2 iSub) := ⟨_, iop_sub, link_pp2 fun WE c a b x v1 v2 Q rr q1 q2 e h => by
  unfold iSub at e
  split at e
  · cases e
    exact ⟨_, _, rp_int q1, rp_int q2, h.p rr mk_int⟩
  · cases e⟩
theorem o_addP {X : Cx} : Op2 X (binaryOp .Add) (pp2 iAdd) := ⟨_, op_add.or op_add_str, link_pp2 fun WE c a b x v1 v2 Q rr q1 q2 e h => by
  unfold iAdd at e
  split at e
  · cases e
    exact .inl ⟨_, _, rp_int q1, rp_int q2, h.p rr mk_int⟩
  · split at e
    · rename_i hz
      cases e
      exact .inr ⟨_, _, rp_str q1, rp_str q2, of_decide_eq_true hz, h.p rr mk_str⟩
    · cases e
  · cases e⟩
theorem o_iaddP {X : Cx} : Op2 X (inplaceOp .Add) (pp2 iAdd) := ⟨_, iop_add.or iop_add_str, link_pp2 fun WE c a b x v1 v2 Q rr q1 q2 e h => by
  unfold iAdd at e
  split at e
  · cases e
    exact .inl ⟨_, _, rp_int q1, rp_int q2, h.p rr mk_int⟩
  · split at e
    · rename_i hz
      cases e
      exact .inr ⟨_, _, rp_str q1, rp_str q2, of_decide_eq_true hz, h.p rr mk_str⟩
    · cases e
  · cases e⟩
/-- a factor below 2 ^ 64 -/
def mulOk (i j : Int) : Bool := decide ((-(2 ^ 64) < i ∧ i < 2 ^ 64) ∨ (-(2 ^ 64) < j ∧ j < 2 ^ 64))
def iMul : PyData → PyData → Option PyData
  | .int i, .int j => if mulOk i j then some (.int (i * j)) else none
  | _, _ => none
theorem o_mul {X : Cx} : Op2 X (binaryOp .Mult) (pp2 iMul) := ⟨_, op_mul, link_pp2 fun WE c a b x v1 v2 Q rr q1 q2 e h => by
  unfold iMul at e
  split at e
  · split at e
    · rename_i hz
      cases e
      exact ⟨_, _, rp_int q1, rp_int q2, by unfold mulOk at hz; exact (of_decide_eq_true hz :), h.p rr mk_int⟩
    · cases e
  · cases e⟩
def iMod : PyData → PyData → Option PyData
  | .int i, .int j => if 0 < j then some (.int (i % j)) else none
  | _, _ => none
theorem o_mod {X : Cx} : Op2 X (binaryOp .Mod) (pp2 iMod) := ⟨_, op_mod, link_pp2 fun WE c a b x v1 v2 Q rr q1 q2 e h => by
  unfold iMod at e
  split at e
  · split at e
    · rename_i hz
      cases e
      exact ⟨_, _, rp_int q1, rp_int q2, hz, h.p rr mk_int⟩
    · cases e
  · cases e⟩
def divOk (j : Int) : Bool := decide (0 < j ∧ j < 1073741824)
def iDiv : PyData → PyData → Option PyData
  | .int i, .int j => if divOk j then some (.int (i / j)) else none
  | _, _ => none
theorem o_div {X : Cx} : Op2 X (binaryOp .FloorDiv) (pp2 iDiv) := ⟨_, op_fdiv, link_pp2 fun WE c a b x v1 v2 Q rr q1 q2 e h => by
  unfold iDiv at e
  split at e
  · split at e
    · rename_i hz
      cases e
      exact ⟨_, _, rp_int q1, rp_int q2, by unfold divOk at hz; exact (of_decide_eq_true hz :), h.p rr mk_int⟩
    · cases e
  · cases e⟩
def powOk (i j : Int) : Bool := decide (0 ≤ j ∧ j ≤ 1000000 ∧ i.natAbs < 2 ^ 64)
def iPow : PyData → PyData → Option PyData
  | .int i, .int j => if powOk i j then some (.int (i ^ j.toNat)) else none
  | _, _ => none
theorem o_pow {X : Cx} : Op2 X (binaryOp .Pow) (pp2 iPow) := ⟨_, op_pow, link_pp2 fun WE c a b x v1 v2 Q rr q1 q2 e h => by
  unfold iPow at e
  split at e
  · split at e
    · rename_i hz
      cases e
      exact ⟨_, _, rp_int q1, rp_int q2, by unfold powOk at hz; exact (of_decide_eq_true hz :), h.p rr mk_int⟩
    · cases e
  · cases e⟩
def iShl : PyData → PyData → Option PyData
  | .int i, .int j => if powOk i j then some (.int (i * 2 ^ j.toNat)) else none
  | _, _ => none
theorem o_shl {X : Cx} : Op2 X (binaryOp .LShift) (pp2 iShl) := ⟨_, op_shl, link_pp2 fun WE c a b x v1 v2 Q rr q1 q2 e h => by
  unfold iShl at e
  split at e
  · split at e
    · rename_i hz
      cases e
      exact ⟨_, _, rp_int q1, rp_int q2, by unfold powOk at hz; exact (of_decide_eq_true hz :), h.p rr mk_int⟩
    · cases e
  · cases e⟩
def iShr : PyData → PyData → Option PyData
  | .int i, .int j => if 0 ≤ j then some (.int (i / 2 ^ j.toNat)) else none
  | _, _ => none
theorem o_shr {X : Cx} : Op2 X (binaryOp .RShift) (pp2 iShr) := ⟨_, op_shr, link_pp2 fun WE c a b x v1 v2 Q rr q1 q2 e h => by
  unfold iShr at e
  split at e
  · split at e
    · rename_i hz
      cases e
      exact ⟨_, _, rp_int q1, rp_int q2, hz, h.p rr mk_int⟩
    · cases e
  · cases e⟩
def iNeg : PyData → Option PyData
  | .int i => some (.int (-i))
  | _ => none
theorem o_neg {X : Cx} : Op1 X (unaryOp .USub) (pp1 iNeg) := ⟨_, un_neg, link_pp1 fun WE c a x v1 Q rr q1 e h => by
  unfold iNeg at e
  split at e
  · cases e
    exact ⟨_, rp_int q1, h.p rr mk_int⟩
  · cases e⟩

/-! ### comparisons -/
def iCmp (f : Int → Int → Bool) : PyData → PyData → Option PyData
  | .int i, .int j => some (.bool (f i j))
  | _, _ => none
theorem link_cmp {Y : Md} {f : Int → Int → Bool} : Link2 Y (pp2 (iCmp f)) (rI0 fun i j => .bl (f i j)) := link_pp2 fun WE c a b x v1 v2 Q rr q1 q2 e h => by
  unfold iCmp at e
  split at e
  · cases e
    exact ⟨_, _, rp_int q1, rp_int q2, h.p rr mk_bool⟩
  · cases e
theorem o_lt {X : Cx} : Op2 X (compareOp .Lt) (pp2 (iCmp fun i j => decide (i < j))) := ⟨_, op_lt, link_cmp⟩
theorem o_le {X : Cx} : Op2 X (compareOp .LtE) (pp2 (iCmp fun i j => decide (i ≤ j))) := ⟨_, op_le, link_cmp⟩
theorem o_gt {X : Cx} : Op2 X (compareOp .Gt) (pp2 (iCmp fun i j => decide (j < i))) := ⟨_, op_gt, link_cmp⟩
theorem o_ge {X : Cx} : Op2 X (compareOp .GtE) (pp2 (iCmp fun i j => decide (j ≤ i))) := ⟨_, op_ge, link_cmp⟩
/-- == of data without dicts -/
def iEq (a b : PyData) : Option PyData := if SeqAt.shaped a && SeqAt.shaped b then some (.bool (PyData.eqv a b)) else none
def iNe (a b : PyData) : Option PyData := if SeqAt.shaped a && SeqAt.shaped b then some (.bool (!PyData.eqv a b)) else none
mutual
theorem RP.dp {K : PySem.W.Frag} {H : Hp} : ∀ {p : PyData} {v : V}, p.canLay0 = true → RP K H p v → Dp K H v p
  | .none, _, _, h => by rw [rp_none h]; exact .non
  | .bool b, _, _, h => by rw [rp_bool h]; exact .bl b
  | .int b, _, _, h => by rw [rp_int h]; exact .int b
  | .str b, _, _, h => by rw [rp_str h]; exact .str b
  | .tuple ps, _, l, h => by
    obtain ⟨a, vs, rfl, h1, h2⟩ := rp_tup h
    exact .tup h1 (RPs.dp (by simpa [PyData.canLay0] using l) h2)
  | .list ps, _, l, h => by
    obtain ⟨a, vs, rfl, h1, h2⟩ := rp_lst h
    exact .lst h1.sq (RPs.dp (by simpa [PyData.canLay0] using l) h2)
  | .dict kvs, _, l, h => by simp [PyData.canLay0] at l
theorem RPs.dp {K : PySem.W.Frag} {H : Hp} : ∀ {ps : List PyData} {vs : List V}, PyData.canLayAll0 ps = true → RPs K H ps vs → DpAll K H vs ps
  | [], _, _, h => by simp only [RPs] at h; subst h; exact .nil
  | p :: ps, _, l, h => by
    simp only [RPs] at h
    obtain ⟨v, r, rfl, h1, h2⟩ := h
    have l2 : p.canLay0 = true ∧ PyData.canLayAll0 ps = true := by simpa [PyData.canLayAll0] using l
    exact .cons (RP.dp l2.1 h1) (RPs.dp l2.2 h2)
end
theorem shaped_can {d : PyData} (h : SeqAt.shaped d = true) : d.canLay0 = true := SeqAt.canLay_of_shaped h
theorem o_eq {X : Cx} (hu : X.A.units + 64 < cLine) : Op2 X (compareOp .Eq) (pp2 iEq) := ⟨_, op_eqD hu, link_pp2 fun WE c a b x v1 v2 Q rr q1 q2 e h => by
  unfold iEq at e
  split at e
  · rename_i hz
    cases e
    have hz2 := Bool.and_eq_true_iff.mp hz
    exact ⟨a, b, RP.dp (shaped_can hz2.1) q1, RP.dp (shaped_can hz2.2) q2, hz2.1, hz2.2, h.p rr mk_bool⟩
  · cases e⟩
theorem o_ne {X : Cx} (hu : X.A.units + 64 < cLine) : Op2 X (compareOp .NotEq) (pp2 iNe) := ⟨_, op_neD hu, link_pp2 fun WE c a b x v1 v2 Q rr q1 q2 e h => by
  unfold iNe at e
  split at e
  · rename_i hz
    cases e
    have hz2 := Bool.and_eq_true_iff.mp hz
    exact ⟨a, b, RP.dp (shaped_can hz2.1) q1, RP.dp (shaped_can hz2.2) q2, hz2.1, hz2.2, h.p rr mk_bool⟩
  · cases e⟩
/-- is None, is not None -/
def isN : D → Bool
  | .p .none => true
  | _ => false
def dIs (k : Bool) : D → D → S → R D := fun d1 d2 s => match d2 with
  | .p .none => .ok (.p (.bool (isN d1 == k))) s
  | _ => .bad
theorem isN_ok {Y : Md} {m o : List Addr} {H : Hp} {d : D} {v : V} (h : RD Y m o H d v) : isN d = decide (v = .non) := by
  cases d with
  | p x =>
    have h : RP Y.K H x v := h
    cases x with
    | none => rw [rp_none h]; rfl
    | bool b => rw [rp_bool h]; rfl
    | int b => rw [rp_int h]; rfl
    | str b => rw [rp_str h]; rfl
    | tuple ps => obtain ⟨a, vs, rfl, _⟩ := rp_tup h; rfl
    | list ps => obtain ⟨a, vs, rfl, _⟩ := rp_lst h; rfl
    | dict kvs => simp only [RP] at h; obtain ⟨a, l, rfl, _⟩ := h; rfl
  | ref i => obtain ⟨a, _, rfl⟩ := h; rfl
  | well i => obtain ⟨a, _, rfl⟩ := h; rfl
  | fn x => obtain ⟨a, rfl, _⟩ := h; rfl
theorem o_is {X : Cx} : Op2 X (compareOp .Is) (dIs true) := ⟨_, op_isN, fun WE c d1 d2 v1 v2 Q rr q1 q2 h => by
  unfold dIs at h
  split at h
  · refine ⟨rd_none q2, ?_⟩
    rw [← isN_ok q1]
    have := h.p rr mk_bool
    simpa using this
  · exact h.elim⟩
theorem o_isnot {X : Cx} : Op2 X (compareOp .IsNot) (dIs false) := ⟨_, op_notN, fun WE c d1 d2 v1 v2 Q rr q1 q2 h => by
  unfold dIs at h
  split at h
  · refine ⟨rd_none q2, ?_⟩
    rw [← isN_ok q1]
    have := h.p rr mk_bool
    cases e : isN d1 <;> simpa [e] using this
  · exact h.elim⟩

/-! ### subscripts -/
/-- the item at an index, from the end if it is below 0 -/
def ixAt {α : Type} (xs : List α) (i : Int) : Option α := (ixN xs.length i).bind fun j => xs[j]?
def dIx : D → D → S → R D := fun d1 d2 s => match d2 with
  | .p (.int i) => (match d1 with
    | .p (.tuple ps) => ret1 (ixAt ps i) s
    | .p (.list ps) => ret1 (ixAt ps i) s
    | .p (.str x) => if sizeOk x.length then (match atI x.cps.toList i with
      | some k => .ok (.p (.str ⟨#[k]⟩)) s
      | none => .bad) else .bad
    | .ref j => (match s.g[j]? with
      | some (some (.lst xs)) => (match ixAt xs i with
        | some d => .ok d s
        | none => .bad)
      | _ => .bad)
    | .well j => (match s.w[j]? with
      | some (some (.lst xs)) => (match ixAt xs i with
        | some (.p x) => .ok (.p x) s
        | _ => .bad)
      | _ => .bad)
    | _ => .bad)
  | _ => .bad
theorem RPs.get {K : PySem.W.Frag} {H : Hp} : ∀ {ps : List PyData} {vs : List V} {i : Nat} {p : PyData}, RPs K H ps vs → ps[i]? = some p → ∃ v, vs[i]? = some v ∧ RP K H p v
  | [], _, _, _, _, e => by simp at e
  | p :: ps, _, i, x, h, e => by
    simp only [RPs] at h
    obtain ⟨v, r, rfl, h1, h2⟩ := h
    cases i with
    | zero => simp at e; subst e; exact ⟨v, by simp, h1⟩
    | succ i => simp at e; obtain ⟨u, e1, q⟩ := RPs.get h2 e; exact ⟨u, by simpa using e1, q⟩
theorem ixAt_rps {K : PySem.W.Frag} {H : Hp} {ps : List PyData} {vs : List V} {i : Int} {p : PyData} (h : RPs K H ps vs) (e : ixAt ps i = some p) : ∃ v, atI vs i = some v ∧ RP K H p v := by
  unfold ixAt at e
  unfold atI
  rw [← h.length]
  cases hj : ixN ps.length i with
  | none => rw [hj] at e; cases e
  | some j => rw [hj] at e; exact h.get e
theorem ixAt_rds {Y : Md} {m o : List Addr} {H : Hp} {ds : List D} {vs : List V} {i : Int} {d : D} (h : RDs Y m o H ds vs) (e : ixAt ds i = some d) : ∃ v, atI vs i = some v ∧ RD Y m o H d v := by
  unfold ixAt at e
  unfold atI
  rw [← Paired.length h]
  cases hj : ixN ds.length i with
  | none => rw [hj] at e; cases e
  | some j => rw [hj] at e; exact Paired.get_ex h e
theorem link_ix {Y : Md} : Link2 Y dIx (rIx Y.K) := by
  intro WE c d1 d2 v1 v2 Q rr q1 q2 h
  unfold dIx at h
  split at h
  · rename_i i
    have e2 := rd_int q2
    split at h
    · rename_i ps
      obtain ⟨a, vs, e1, h1, h2⟩ := rd_tup q1
      cases e : ixAt ps i with
      | none => rw [e] at h; exact h.elim
      | some p =>
        rw [e] at h
        obtain ⟨v, ev, q⟩ := ixAt_rps h2 e
        exact .inr (.inl ⟨a, vs, i, v, e1, e2, h1, ev, h.p rr q⟩)
    · rename_i ps
      obtain ⟨a, vs, e1, h1, h2⟩ := rd_lst q1
      cases e : ixAt ps i with
      | none => rw [e] at h; exact h.elim
      | some p =>
        rw [e] at h
        obtain ⟨v, ev, q⟩ := ixAt_rps h2 e
        exact .inl ⟨a, vs, i, v, e1, e2, h1.sq, ev, h.p rr q⟩
    · rename_i x
      split at h
      · rename_i hz
        split at h
        · rename_i k ek
          exact .inr (.inr ⟨x, i, k, rd_str q1, e2, of_decide_eq_true hz, ek, h.p rr mk_str⟩)
        · exact h.elim
      · exact h.elim
    · rename_i j
      split at h
      · rename_i xs ex
        obtain ⟨a, ea, vs, ev, qs⟩ := rr.g j _ ex
        obtain ⟨a', ea', e1⟩ := q1
        rw [ea] at ea'; cases ea'
        split at h
        · rename_i d ed
          obtain ⟨v, e3, q⟩ := ixAt_rds qs ed
          exact .inl ⟨a, vs, i, v, e1, e2, SqL.of ev, e3, Post.here (RA := rd Y) h rr q⟩
        · exact h.elim
      · exact h.elim
    · rename_i j
      split at h
      · rename_i xs ex
        obtain ⟨a, ea, vs, ev, qs⟩ := rr.w j _ ex
        obtain ⟨a', ea', e1⟩ := q1
        rw [ea] at ea'; cases ea'
        split at h
        · rename_i d ed
          obtain ⟨v, e3, q⟩ := ixAt_rds qs ed
          exact .inl ⟨a, vs, i, v, e1, e2, SqL.of ev, e3, h.p rr q⟩
        · exact h.elim
      · exact h.elim
    · exact h.elim
  · exact h.elim
section
variable {X : Cx} {W : WX} {pos : Pos} {a b : Expr} {ma mb : ME}
theorem e_ix (ha : PE X a (LE X W ma)) (hb : PE X b (LE X W mb)) (hs : PlainIx b := by intro _ _; rfl) : PE X (.Subscript a b pos) (LE X W (mBin dIx ma mb)) := (pe_ix ix_seq ha hb hs).imp fun σ H Q h => tOp_of link_ix h

/-! ### calls of built-ins -/
def LinkC (Y : Md) (f : List D → S → R D) (r : List V → Hp → VK → Prop) : Prop := ∀ WE c ds vs Q, Rel Y c → rds Y c ds vs → Post Y (rd Y) WE c (f ds c.s) Q → r vs c.H Q
def CallX (X : Cx) (u : Value) (f : List D → S → R D) : Prop := ∃ r, CallR X u r ∧ LinkC (yx X) f r
variable {es : List Expr} {ms : MA}
theorem tCB_of {f : List D → S → R D} {r : List V → Hp → VK → Prop} (hl : LinkC (yx X) f r) {σ : L2.St} {H : Hp} {Q : VK} (h : LE X W (mCall f ms) σ H Q) : tCB r (LA X W ms) σ H Q := by
  obtain ⟨env, c, e, re, rr, h⟩ := h
  exact ⟨env, c, e, re, rr, h.bind fun ds vs c1 s1 r1 q1 h1 => hl _ c1 ds vs Q r1 q1 h1⟩
theorem e_bi {id : String} {x : Str} {p : Pos} {e : Expr} {f : List D → S → R D} (h : CallX X (.builtin id) f) (hg : Gl X x) (hm : X.mg x = none) (hv : bootBuiltins x = some (.builtin id)) (ha : PA X (e :: es) (LA X W ms)) (hn : x ≠ "__name__" := by decide) (hdb : (x == ("__debug__" : Str)) = false := by decide)
    (he : starEach (e :: es) X.env = (false, eval e X.env) :: starEach es X.env := by rfl) (hpl : (backTo pos (starEach es X.env)).any (·.1) = false := by rfl) : PE X (.Call (.Name x p) (e :: es) [] pos) (LE X W (mCall f ms)) := by
  obtain ⟨r, hr, hl⟩ := h
  exact (pe_callB hr hg hm hv ha hn hdb he hpl).imp fun σ H Q q => tCB_of hl q
theorem e_ty {T : String} {x : Str} {p : Pos} {e : Expr} {f : List D → S → R D} (h : CallX X (.type T) f) (hg : Gl X x) (hm : X.mg x = none) (hv : bootBuiltins x = some (.type T)) (ha : PA X (e :: es) (LA X W ms)) (hn : x ≠ "__name__" := by decide) (hdb : (x == ("__debug__" : Str)) = false := by decide)
    (he : starEach (e :: es) X.env = (false, eval e X.env) :: starEach es X.env := by rfl) (hpl : (backTo pos (starEach es X.env)).any (·.1) = false := by rfl) : PE X (.Call (.Name x p) (e :: es) [] pos) (LE X W (mCall f ms)) := by
  obtain ⟨r, hr, hl⟩ := h
  exact (pe_callTy hr hg hm hv ha hn hdb he hpl).imp fun σ H Q q => tCB_of hl q
def fLen : List D → S → R D := fun ds s => match ds with
  | [.p (.tuple ps)] => .ok (.p (.int ps.length)) s
  | [.p (.list ps)] => .ok (.p (.int ps.length)) s
  | [.p (.str x)] => if sizeOk x.length then .ok (.p (.int x.length)) s else .bad
  | [.ref j] => (match s.g[j]? with
    | some (some (.lst xs)) => .ok (.p (.int xs.length)) s
    | _ => .bad)
  | _ => .bad
theorem rds1 {Y : Md} {m o : List Addr} {H : Hp} {d : D} {vs : List V} (h : RDs Y m o H [d] vs) : ∃ v, vs = [v] ∧ RD Y m o H d v := by
  cases h with
  | cons q t => cases t; exact ⟨_, rfl, q⟩
theorem rds2 {Y : Md} {m o : List Addr} {H : Hp} {d d' : D} {vs : List V} (h : RDs Y m o H [d, d'] vs) : ∃ v v', vs = [v, v'] ∧ RD Y m o H d v ∧ RD Y m o H d' v' := by
  cases h with
  | cons q t => cases t with
    | cons q2 t => cases t; exact ⟨_, _, rfl, q, q2⟩
theorem b_len : CallX X (.builtin "len") fLen := ⟨_, call_len, fun WE c ds vs Q rr q h => by
  unfold fLen at h
  split at h
  · rename_i ps
    obtain ⟨v, rfl, q1⟩ := rds1 q
    obtain ⟨a, vs, rfl, h1, h2⟩ := rd_tup q1
    exact ⟨_, vs.length, rfl, .inr ⟨vs, h1, rfl⟩, by rw [← h2.length]; exact h.p rr mk_int⟩
  · rename_i ps
    obtain ⟨v, rfl, q1⟩ := rds1 q
    obtain ⟨a, vs, rfl, h1, h2⟩ := rd_lst q1
    exact ⟨_, vs.length, rfl, .inl ⟨vs, h1.sq, rfl⟩, by rw [← h2.length]; exact h.p rr mk_int⟩
  · rename_i x
    obtain ⟨v, rfl, q1⟩ := rds1 q
    split at h
    · rename_i hz
      exact ⟨_, x.length, rfl, by rw [rd_str q1]; exact ⟨of_decide_eq_true hz, rfl⟩, h.p rr mk_int⟩
    · exact h.elim
  · rename_i j
    obtain ⟨v, rfl, q1⟩ := rds1 q
    split at h
    · rename_i xs ex
      obtain ⟨a, ea, vs, ev, qs⟩ := rr.g j _ ex
      obtain ⟨a', ea', rfl⟩ := q1
      rw [ea] at ea'; cases ea'
      exact ⟨_, vs.length, rfl, .inl ⟨vs, SqL.of ev, rfl⟩, by rw [← Paired.length qs]; exact h.p rr mk_int⟩
    · exact h.elim
  · exact h.elim⟩
/-- a list of truths -/
def allB : List PyData → Option (List Bool)
  | [] => some []
  | .bool b :: ps => (allB ps).map (b :: ·)
  | _ :: _ => none
theorem allB_ok {K : PySem.W.Frag} {H : Hp} : ∀ {ps : List PyData} {vs : List V} {bs : List Bool}, RPs K H ps vs → allB ps = some bs → vs = bs.map V.bl
  | [], _, _, h, e => by simp only [RPs] at h; simp [allB] at e; subst h; subst e; rfl
  | p :: ps, _, bs, h, e => by
    simp only [RPs] at h
    obtain ⟨v, r, rfl, h1, h2⟩ := h
    cases p <;> simp only [allB, Option.map_eq_some_iff, reduceCtorEq] at e
    obtain ⟨bs', e1, rfl⟩ := e
    rw [rp_bool h1, allB_ok h2 e1]; rfl
/-- a list or an own list, as data -/
def lstP (d : D) (s : S) : Option (List PyData) := match d with
  | .p (.list ps) => some ps
  | .ref j => (match s.g[j]? with
    | some (some (.lst xs)) => allP xs
    | _ => none)
  | _ => none
theorem lstP_ok {Y : Md} {c : Cf} {d : D} {v : V} {ps : List PyData} (rr : Rel Y c) (q : RD Y c.m c.o c.H d v) (e : lstP d c.s = some ps) : ∃ a vs, v = .ref a ∧ SqL Y.K c.H a vs ∧ RPs Y.K c.H ps vs := by
  unfold lstP at e
  split at e
  · cases e
    obtain ⟨a, vs, rfl, h1, h2⟩ := rd_lst q
    exact ⟨a, vs, rfl, h1.sq, h2⟩
  · rename_i j
    split at e
    · rename_i xs ex
      obtain ⟨a, ea, vs, ev, qs⟩ := rr.g j _ ex
      obtain ⟨a', ea', rfl⟩ := q
      rw [ea] at ea'; cases ea'
      exact ⟨a, vs, rfl, SqL.of ev, allP_ok qs e⟩
    · cases e
  · cases e
def fAll : List D → S → R D := fun ds s => match ds with
  | [d] => (match (lstP d s).bind allB with
    | some bs => .ok (.p (.bool (bs.all id))) s
    | none => .bad)
  | _ => .bad
def fAny : List D → S → R D := fun ds s => match ds with
  | [d] => (match (lstP d s).bind allB with
    | some bs => .ok (.p (.bool (bs.any id))) s
    | none => .bad)
  | _ => .bad
theorem b_all (hc : X.calm = true) : CallX X (.builtin "all") fAll := ⟨_, cr_all hc, fun WE c ds vs Q rr q h => by
  unfold fAll at h
  split at h
  · rename_i d
    obtain ⟨v, rfl, q1⟩ := rds1 q
    split at h
    · rename_i bs e
      obtain ⟨ps, e1, e2⟩ := Option.bind_eq_some_iff.mp e
      obtain ⟨a, vs, rfl, h1, h2⟩ := lstP_ok rr q1 e1
      exact ⟨a, bs, rfl, by rw [← allB_ok h2 e2]; exact h1, h.p rr mk_bool⟩
    · exact h.elim
  · exact h.elim⟩
theorem b_any (hc : X.calm = true) : CallX X (.builtin "any") fAny := ⟨_, cr_any hc, fun WE c ds vs Q rr q h => by
  unfold fAny at h
  split at h
  · rename_i d
    obtain ⟨v, rfl, q1⟩ := rds1 q
    split at h
    · rename_i bs e
      obtain ⟨ps, e1, e2⟩ := Option.bind_eq_some_iff.mp e
      obtain ⟨a, vs, rfl, h1, h2⟩ := lstP_ok rr q1 e1
      exact ⟨a, bs, rfl, by rw [← allB_ok h2 e2]; exact h1, h.p rr mk_bool⟩
    · exact h.elim
  · exact h.elim⟩
def allI : List PyData → Option (List Int)
  | [] => some []
  | .int b :: ps => (allI ps).map (b :: ·)
  | _ :: _ => none
theorem allI_ok {K : PySem.W.Frag} {H : Hp} : ∀ {ps : List PyData} {vs : List V} {bs : List Int}, RPs K H ps vs → allI ps = some bs → vs = bs.map V.int
  | [], _, _, h, e => by simp only [RPs] at h; simp [allI] at e; subst h; subst e; rfl
  | p :: ps, _, bs, h, e => by
    simp only [RPs] at h
    obtain ⟨v, r, rfl, h1, h2⟩ := h
    cases p <;> simp only [allI, Option.map_eq_some_iff, reduceCtorEq] at e
    obtain ⟨bs', e1, rfl⟩ := e
    rw [rp_int h1, allI_ok h2 e1]; rfl
def fSum : List D → S → R D := fun ds s => match ds with
  | [d] => (match (lstP d s).bind allI with
    | some ns => .ok (.p (.int ns.sum)) s
    | none => .bad)
  | _ => .bad
theorem b_sum (hc : X.calm = true) : CallX X (.builtin "sum") fSum := ⟨_, cr_sum hc, fun WE c ds vs Q rr q h => by
  unfold fSum at h
  split at h
  · rename_i d
    obtain ⟨v, rfl, q1⟩ := rds1 q
    split at h
    · rename_i bs e
      obtain ⟨ps, e1, e2⟩ := Option.bind_eq_some_iff.mp e
      obtain ⟨a, vs, rfl, h1, h2⟩ := lstP_ok rr q1 e1
      exact ⟨a, bs, rfl, by rw [← allI_ok h2 e2]; exact h1, h.p rr mk_int⟩
    · exact h.elim
  · exact h.elim⟩
def fTuple : List D → S → R D := fun ds s => match ds with
  | [.p (.tuple ps)] => .ok (.p (.tuple ps)) s
  | [d] => (match lstP d s with
    | some ps => .ok (.p (.tuple ps)) s
    | none => .bad)
  | _ => .bad
theorem b_tuple : CallX X (.type "tuple") fTuple := ⟨_, call_tuple_of, fun WE c ds vs Q rr q h => by
  unfold fTuple at h
  split at h
  · rename_i ps
    obtain ⟨v, rfl, q1⟩ := rds1 q
    obtain ⟨a, vs, e1, h1, h2⟩ := rd_tup q1
    subst e1
    exact ⟨a, vs, rfl, .inr ⟨h1, h.p rr q1⟩⟩
  · rename_i d _
    obtain ⟨v, rfl, q1⟩ := rds1 q
    split at h
    · rename_i ps e
      obtain ⟨a, vs, rfl, h1, h2⟩ := lstP_ok rr q1 e
      exact ⟨a, vs, rfl, .inl ⟨h1, fun l nl => h.tup rr h2 nl⟩⟩
    · exact h.elim
  · exact h.elim⟩
/-- list(xs): an own list -/
def kNew : List D → S → R D := fun ds s => .ok (.ref s.g.length) { s with g := s.g ++ [some (.lst ds)] }
def fList : List D → S → R D := fun ds s => match ds with
  | [.p (.tuple ps)] => kNew (ps.map .p) s
  | [.p (.list ps)] => kNew (ps.map .p) s
  | [.ref j] => (match s.g[j]? with
    | some (some (.lst xs)) => kNew xs s
    | _ => .bad)
  | _ => .bad
theorem kNew_put {Y : Md} {WE : Value → Option Addr → Hp → Prop} {c : Cf} {ds : List D} {vs : List V} {Q : VK} {t : Addr} (h : Post Y (rd Y) WE c (kNew ds c.s) Q) (r : Rel Y c) (q : RDs Y c.m c.o c.H ds vs) (n : c.H t = none) :
    Q (.ref t) (upd c.H t (.lst vs)) := by
  refine h (.ref t) (c.new t (.lst vs) (.lst ds)) rfl (Stp.new r n) (r.new n ?_) ⟨t, ?_, rfl⟩
  · exact ⟨vs, upd_same, RDs.up (fun i a e => get_app e) (fun _ _ e => e) (stay_of (upd_stay n)) q⟩
  · show (c.m ++ [t])[c.s.g.length]? = some t
    rw [← r.gl]; simp
theorem b_list : CallX X (.type "list") fList := ⟨_, call_list_of, fun WE c ds vs Q rr q h => by
  unfold fList at h
  split at h
  · rename_i ps
    obtain ⟨v, rfl, q1⟩ := rds1 q
    obtain ⟨a, vs, rfl, h1, h2⟩ := rd_tup q1
    exact ⟨a, vs, rfl, .inr h1, fun l nl => kNew_put h rr h2.rds nl⟩
  · rename_i ps
    obtain ⟨v, rfl, q1⟩ := rds1 q
    obtain ⟨a, vs, rfl, h1, h2⟩ := rd_lst q1
    exact ⟨a, vs, rfl, .inl h1.sq, fun l nl => kNew_put h rr h2.rds nl⟩
  · rename_i j
    obtain ⟨v, rfl, q1⟩ := rds1 q
    split at h
    · rename_i xs ex
      obtain ⟨a, ea, vs, ev, qs⟩ := rr.g j _ ex
      obtain ⟨a', ea', rfl⟩ := q1
      rw [ea] at ea'; cases ea'
      exact ⟨a, vs, rfl, .inl (SqL.of ev), fun l nl => kNew_put h rr qs nl⟩
    · exact h.elim
  · exact h.elim⟩
def fInt : List D → S → R D := fun ds s => match ds with
  | [.p (.int i)] => .ok (.p (.int i)) s
  | [.p (.bool b)] => .ok (.p (.int (if b then 1 else 0))) s
  | _ => .bad
theorem b_int : CallX X (.type "int") fInt := ⟨_, call_int1, fun WE c ds vs Q rr q h => by
  unfold fInt at h
  split at h
  · obtain ⟨v, rfl, q1⟩ := rds1 q
    exact .inl ⟨_, by rw [rd_int q1], h.p rr mk_int⟩
  · obtain ⟨v, rfl, q1⟩ := rds1 q
    exact .inr ⟨_, by rw [rd_bool q1], h.p rr mk_int⟩
  · exact h.elim⟩
end
end Mp

/-! MP, part H: frozen displays, pure calls, raise, try, isinstance, slices, lists changed. -/
namespace Mp
open PySem PySem.Spec PyProof.Rows L2
section
variable {X : Cx} {W : WX} {pos : Pos} {a b : Expr} {ma mb : ME} {es : List Expr} {ms : MA}

/-! ### a list display that stands for good -/
theorem stay_poke {H : Hp} {a : Addr} {u : HO} (h : ∀ v, H a = some v → Movable v) : Stay H (upd H a u) := fun b => by
  refine ⟨fun xs e => ?_, fun o w e => ?_⟩
  · rw [upd_ne]
    · exact e
    · intro z; subst z; exact (h _ e)
  · rw [upd_ne]
    · exact e
    · intro z; subst z; exact (h _ e)
def mLstF (ms : MA) : ME := fun env s => (ms env s).bind fun ds s1 => match allP ds with
  | some ps => if sizeOk ps.length then .ok (.p (.list ps)) s1 else .bad
  | none => .bad
/-- a fresh list, frozen at once -/
theorem Post.frz {Y : Md} {WE : Value → Option Addr → Hp → Prop} {c : Cf} {ps : List PyData} {vs : List V} {Q : VK} {t : Addr} (h : Post Y (rd Y) WE c (.ok (.p (.list ps)) c.s) Q) (r : Rel Y c) (q : RPs Y.K c.H ps vs) (n : c.H t = none) :
    FZ (Q (.ref t)) (upd c.H t (.lst vs)) := by
  refine .one t (.lst vs) upd_same trivial fun o => .done ?_
  have e : upd (upd c.H t (.lst vs)) t (.frz o (.lst vs)) = upd c.H t (.frz o (.lst vs)) := upd_upd
  rw [e]
  refine h (.ref t) (c.at t (.frz o (.lst vs))) rfl (Stp.at n) (r.at n) ?_
  show RP Y.K (upd c.H t (.frz o (.lst vs))) (.list ps) (.ref t)
  simp only [RP]
  exact ⟨t, vs, rfl, .inl ⟨o, upd_same⟩, RPs.stay (stay_of (upd_stay n)) q⟩
theorem e_lstF (hs : PA X es (LA X W ms)) : PE X (.List es pos) (LE X W (mLstF ms)) := by
  refine ((pe_lst hs).fz).imp fun σ H Q ⟨env, c, e, re, rr, h⟩ => ⟨env, c, e, re, rr, h.bind fun ds vs c1 s1 r1 q1 h1 => ?_⟩
  cases e2 : allP ds with
  | none => simp only [e2] at h1; exact h1.elim
  | some ps =>
    simp only [e2] at h1
    split at h1
    · rename_i hz
      have q2 := allP_ok q1 e2
      exact ⟨by rw [← q2.length]; exact of_decide_eq_true hz, fun p np => h1.frz r1 q2 np⟩
    · exact h1.elim
/-- list(xs) that stands for good -/
def fListF : List D → S → R D := fun ds s => match ds with
  | [.p (.tuple ps)] => .ok (.p (.list ps)) s
  | [d] => (match lstP d s with
    | some ps => .ok (.p (.list ps)) s
    | none => .bad)
  | _ => .bad
/-- a call of a built-in whose list is frozen at once -/
def LinkF (Y : Md) (f : List D → S → R D) (r : List V → Hp → VK → Prop) : Prop := ∀ WE c ds vs Q, Rel Y c → rds Y c ds vs → Post Y (rd Y) WE c (f ds c.s) Q → r vs c.H fun v H' => FZ (Q v) H'
theorem b_listF : LinkF (yx X) fListF (fun xs H Q => ∃ p ys, xs = [.ref p] ∧ (SqL X.K H p ys ∨ SqT X.K H p ys) ∧ ∀ l, H l = none → Q (.ref l) (upd H l (.lst ys))) := fun WE c ds vs Q rr q h => by
  unfold fListF at h
  split at h
  · rename_i ps
    obtain ⟨v, rfl, q1⟩ := rds1 q
    obtain ⟨a, vs, rfl, h1, h2⟩ := rd_tup q1
    exact ⟨a, vs, rfl, .inr h1, fun l nl => h.frz rr h2 nl⟩
  · rename_i d _
    obtain ⟨v, rfl, q1⟩ := rds1 q
    split at h
    · rename_i ps e
      obtain ⟨a, vs, rfl, h1, h2⟩ := lstP_ok rr q1 e
      exact ⟨a, vs, rfl, .inl h1, fun l nl => h.frz rr h2 nl⟩
    · exact h.elim
  · exact h.elim
theorem e_listF {x : Str} {p : Pos} {e : Expr} (hg : Gl X x) (hm : X.mg x = none) (hv : bootBuiltins x = some (.type "list")) (ha : PA X (e :: es) (LA X W ms)) (hn : x ≠ "__name__" := by decide) (hdb : (x == ("__debug__" : Str)) = false := by decide)
    (he : starEach (e :: es) X.env = (false, eval e X.env) :: starEach es X.env := by rfl) (hpl : (backTo pos (starEach es X.env)).any (·.1) = false := by rfl) : PE X (.Call (.Name x p) (e :: es) [] pos) (LE X W (mCall fListF ms)) :=
  ((pe_callTy call_list_of hg hm hv ha hn hdb he hpl).fz).imp fun σ H Q ⟨env, c, e, re, rr, h⟩ => ⟨env, c, e, re, rr, h.bind fun ds vs c1 s1 r1 q1 h1 => b_listF _ c1 ds vs Q r1 q1 h1⟩

/-! ### a call on a heap of its own -/
def onlyP : List D → Bool
  | [] => true
  | .ref _ :: _ => false
  | _ :: ds => onlyP ds
def onlyF : List (Str × D) → Bool
  | [] => true
  | (_, .p _) :: fs => onlyF fs
  | _ :: _ => false
/-- run on an empty small heap; what is handed back is pure -/
def pureRun (f : List D → S → R D) : List D → S → R D := fun ds s => if onlyP ds then (match f ds ⟨[], s.w⟩ with
  | .ok (.p x) s' => .ok (.p x) ⟨s.g, s'.w⟩
  | .ex x fs s' => if onlyF fs then .ex x fs ⟨s.g, s'.w⟩ else .bad
  | _ => .bad) else .bad
theorem onlyP_rds {Y : Md} {m m' o o' : List Addr} {H : Hp} (ho : ∀ (i : Nat) (a : Addr), o[i]? = some a → o'[i]? = some a) : ∀ {ds : List D} {vs : List V}, onlyP ds = true → RDs Y m o H ds vs → RDs Y m' o' H ds vs
  | [], _, _, .nil => .nil
  | .p x :: ds, _, e, .cons q t => .cons q (onlyP_rds ho (by simpa [onlyP] using e) t)
  | .fn x :: ds, _, e, .cons q t => .cons q (onlyP_rds ho (by simpa [onlyP] using e) t)
  | .well i :: ds, _, e, .cons q t => by
    obtain ⟨a, e1, e2⟩ := q
    exact .cons ⟨a, ho _ _ e1, e2⟩ (onlyP_rds ho (by simpa [onlyP] using e) t)
  | .ref i :: ds, _, e, .cons q t => by simp [onlyP] at e
/-- the callee's configuration -/
def Cf.alone (c : Cf) : Cf := ⟨⟨[], c.s.w⟩, [], c.o, c.H⟩
theorem Rel.alone {Y : Md} {c : Cf} (r : Rel Y c) : Rel Y c.alone := by
  refine ⟨fun i x h => by simp [Cf.alone] at h, fun i x h => ?_, rfl, r.wl, fun i j x y a h => by simp [Cf.alone] at h, r.wi, fun a h => ?_⟩
  · exact r.w i x h
  · obtain ⟨i, x, h, _⟩ := h
    simp [Cf.alone] at h
/-- behind the callee: the caller's objects stand as they stood -/
def Cf.back (c c2 : Cf) : Cf := ⟨⟨c.s.g, c2.s.w⟩, c.m, c2.o, c2.H⟩
theorem own_alone {c : Cf} {a : Addr} (h : c.alone.Own a) : Alive c.s.w c.o a := by
  rcases h with ⟨i, x, h, _⟩ | h
  · simp [Cf.alone] at h
  · exact h
theorem Rel.back {Y : Md} {c c2 : Cf} (r : Rel Y c) (st : Stp c.alone c2) (r2 : Rel Y c2) : Rel Y (c.back c2) := by
  have stay : Stay c.H c2.H := st.stay r.alone
  have keep : ∀ a, Alive c.s.g c.m a → ∀ u, c.H a = some u → c2.H a = some u := fun a ha u h => st.ext a u h fun z => r.gw a ha (own_alone z)
  refine ⟨fun i x h => ?_, fun i x h => r2.w i x h, r.gl, r2.wl, r.gi, r2.wi, fun a h1 h2 => ?_⟩
  · obtain ⟨a, e, q⟩ := r.g i x h
    refine ⟨a, e, q.up (fun _ _ z => z) st.o stay (fun u hu => keep a ⟨i, x, h, e⟩ u hu) (fun d hd => st.ext d _ hd fun z => ?_)⟩
    exact r.alone.notOwn hd (fun z => z) z
  · rcases st.own a (.inr h2) with z | z
    · exact r.gw a h1 (own_alone z)
    · obtain ⟨u, hu, _⟩ := r.own (.inl h1)
      have z' : c.H a = none := z
      rw [hu] at z'; cases z'
theorem Stp.back {Y : Md} {c c2 : Cf} (r : Rel Y c) (st : Stp c.alone c2) : Stp c (c.back c2) where
  m := fun _ _ h => h
  o := st.o
  own := fun a h => by
    rcases h with h | h
    · exact .inl (.inl h)
    · rcases st.own a (.inr h) with z | z
      · exact .inl (.inr (own_alone z))
      · exact .inr z
  ext := fun a u h n => st.ext a u h fun z => n (.inr (own_alone z))
theorem pureRun_ok {Y : Md} {n : Nat} {m : List D → S → R D} {vs : List V} {c : Cf} {ds : List D} {Q : VK} {E : XK} (hl : vs.length = n) (r : Rel Y c) (q : rds Y c ds vs) (h : Post Y (rd Y) (fun cv dx H' => E cv dx H') c (pureRun m ds c.s) Q) : spM Y n m vs c.H Q E := by
  unfold pureRun at h
  split at h
  · rename_i ho
    refine ⟨hl, ds, c.alone, rfl, r.alone, onlyP_rds (fun _ _ z => z) ho q, ?_⟩
    show Post Y (rd Y) _ c.alone (m ds ⟨[], c.s.w⟩) Q
    cases hm : m ds ⟨[], c.s.w⟩ with
    | ok d s' =>
      rw [hm] at h
      cases d with
      | p x =>
        intro v c2 e2 s2 r2 q2
        refine h v (c.back c2) ?_ (s2.back r) (r.back s2 r2) q2
        show (⟨c.s.g, c2.s.w⟩ : S) = _
        rw [e2]
      | ref i => exact h.elim
      | well i => exact h.elim
      | fn x => exact h.elim
    | ex x fs s' =>
      rw [hm] at h
      simp only at h
      split at h
      · rename_i hf
        intro cv dx c2 e2 s2 r2 xr
        refine h cv dx (c.back c2) ?_ (s2.back r) (r.back s2 r2) ?_
        · show (⟨c.s.g, c2.s.w⟩ : S) = _
          rw [e2]
        · obtain ⟨C, e1, e3, e4⟩ := xr
          refine ⟨C, e1, e3, ?_⟩
          rcases e4 with e4 | ⟨d, fv, e5, e6, e7⟩
          · exact .inl e4
          · refine .inr ⟨d, fv, e5, e6, ?_⟩
            have gen : ∀ {fs : List (Str × D)} {fv : List (Str × V)}, onlyF fs = true → Paired (fun (p : Str × D) (q : Str × V) => p.1 = q.1 ∧ RD Y c2.m c2.o c2.H p.2 q.2) fs fv → Paired (fun (p : Str × D) (q : Str × V) => p.1 = q.1 ∧ RD Y (c.back c2).m (c.back c2).o (c.back c2).H p.2 q.2) fs fv := by
              intro fs fv ho p
              induction p with
              | nil => exact .nil
              | cons q t ih =>
                rename_i a b la lb
                obtain ⟨n, d⟩ := a
                cases d with
                | p x => exact .cons q (ih (by simpa [onlyF] using ho))
                | ref i => simp [onlyF] at ho
                | well i => simp [onlyF] at ho
                | fn x => simp [onlyF] at ho
            exact gen hf e7
      · exact h.elim
    | bad => rw [hm] at h; exact h.elim
  · exact h.elim
theorem e_callP {k n : Nat} {f : Addr} {fd : FuncData} {ps : List Str} {x : Str} {p : Pos} {e : Expr} {m : List D → S → R D} (F : FnOk X.prog X.w X.K X.mg X.base (L2.CX X.prog X.w) k f fd ps (spM (yx X) n m)) (hr : Room k X.A) (hg : Gl X x) (hm : X.mg x = some (.ref f))
    (hk : PySem.W.keepIn X.K (.ref f) = true) (hb : Binds X.K fd ps []) (tk : Takes X W) (ha : PA X (e :: es) (LA X W ms)) (hl : ∀ env s ds s', ms env s = .ok ds s' → ds.length = n)
    (hdb : (x == ("__debug__" : Str)) = false := by decide) (he : starEach (e :: es) X.env = (false, eval e X.env) :: starEach es X.env := by rfl) (hpl : (backTo pos (starEach es X.env)).any (·.1) = false := by rfl) :
    PE X (.Call (.Name x p) (e :: es) [] pos) (LE X W (mCall (pureRun m) ms)) := by
  refine (pe_callS (E := fun σ => fun cls d H => W cls d σ H) F hr hg hm hk hb (fun σ => passAt tk σ) ha hdb he hpl).imp fun σ H Q ⟨env, c, e, re, r, h⟩ => ?_
  refine ⟨env, c, e, re, r, ?_⟩
  cases hms : ms env c.s with
  | ok ds s' =>
    unfold mCall at h
    rw [hms] at h
    intro vs c1 e1 s1 r1 q1
    refine pureRun_ok (by rw [← Paired.length q1]; exact hl _ _ _ _ hms) r1 q1 ?_
    rw [e1]
    exact h.step s1
  | ex y fs s' =>
    unfold mCall at h
    rw [hms] at h
    exact h
  | bad =>
    unfold mCall at h
    rw [hms] at h
    exact h.elim
/-- so many arguments -/
def ArgN (ms : MA) (n : Nat) : Prop := ∀ env s ds s', ms env s = .ok ds s' → ds.length = n
theorem argN_nil : ArgN mNil 0 := fun env s ds s' h => by cases h; rfl
theorem argN_cons {n : Nat} (h : ArgN ms n) : ArgN (mCons ma ms) (n + 1) := fun env s ds s' e => by
  unfold mCons at e
  cases h1 : ma env s with
  | ok d s1 =>
    rw [h1] at e
    simp only [Mp.R.bind_ok] at e
    cases h2 : ms env s1 with
    | ok ds2 s2 =>
      rw [h2] at e
      cases e
      simp [h _ _ _ _ h2]
    | ex x fs s2 => rw [h2] at e; cases e
    | bad => rw [h2] at e; cases e
  | ex x fs s1 => rw [h1] at e; cases e
  | bad => rw [h1] at e; cases e

/-! ### raise -/
def sRaise (x : Str) : MS := fun env s => .ex x [] env s
theorem pmk_none {C : Addr} {bmB : List Value} {B newId initId : String} {x : Str} {p : Pos} (F : ExcBaseFacts B newId initId bmB) (q : PySem.W.excIn X.K C bmB newId = true) (gC : X.mg x = some (.ref C))
    (kC : PySem.W.keepIn X.K (.ref C) = true) (r : Raises X (.ref C)) (hg : Gl X x) (hdb : (x == ("__debug__" : Str)) = false := by decide) : PMk X (.Call (.Name x p) [] [] pos) (fun _ H Q => Q (.ref C) none H) := by
  intro pins s σ H Q I q1
  refine wpAny_Call_Name_kw (ld_glob I hg gC ?_ hdb)
  refine PySem.W.callWith_K0 (first := []) I.kIn kC ?_
  obtain ⟨bm, N, nm, qn, bs, hdct, sn, sub, ab, col, dd, k0, k1, k2, k3, k5, mN, hC, hN, hni, T⟩ := exc_obj I.kIn q
  exact wpAny_call_exc_subT F T hC hN hni (fun h' e hm => mk_of I hm r q1 (I.hok.gone hm.new)) (Nat.zero_le _)
theorem s_raise {C : Addr} {bmB : List Value} {B newId initId : String} {x : Str} {p : Pos} (F : ExcBaseFacts B newId initId bmB) (q : PySem.W.excIn X.K C bmB newId = true) (gC : X.mg x = some (.ref C))
    (kC : PySem.W.keepIn X.K (.ref C) = true) (r : Raises X (.ref C)) (hc : X.calm = true) (tk : Takes X W) (hg : Gl X x) (hdb : (x == ("__debug__" : Str)) = false := by decide) {pos' : Pos} :
    PS X (.Raise (some (.Call (.Name x p) [] [] pos)) none pos') (LS X W (sRaise x)) :=
  (ps_raise hc tk (pmk_none F q gC kC r hg hdb)).imp fun D σ H ⟨env, c, e, re, rr, h⟩ => by
    subst e
    exact h (.ref C) none σ c rfl Stp.refl rr ⟨C, rfl, gC, .inl ⟨rfl, rfl⟩⟩ re

/-! ### try -/
/-- which clause takes it -/
def hdl (em : Str → Str → Bool) (x : Str) (fs : List (Str × D)) (env : Env1) (s : S) : List (Str × MS) → RS
  | [] => .ex x fs env s
  | (c, m) :: r => if em x c then (match m env s with
    | .ex _ _ _ _ => .bad
    | z => z) else hdl em x fs env s r
def sTry (em : Str → Str → Bool) (mb : MS) (hs : List (Str × MS)) : MS := fun env s => match mb env s with
  | .ex x fs env' s' => hdl em x fs env' s' hs
  | z => z
/-- the clauses' suites -/
inductive HdM (X : Cx) : List ExceptHandler → List (Str × Value × MS) → Prop
  | nil : HdM X [] []
  | cons {x : Str} {c : Value} {m : MS} {b₀ : Stmt} {suite : List Stmt} {np pos' : Pos} {hds : List ExceptHandler} {l : List (Str × Value × MS)} (hc : Names X x c)
      (hsu : ∀ (a : Addr) (pn : List (Addr × Obj)), PSs (X.suite a pn) (b₀ :: suite) (LS X wNo m)) (r : HdM X hds l) : HdM X (.ExceptHandler (some (.Name x np)) none (b₀ :: suite) pos' :: hds) ((x, c, m) :: l)
theorem HdM.ok {hds : List ExceptHandler} {l : List (Str × Value × MS)} (h : HdM X hds l) : HdsOk X hds (l.map fun p => (p.2.1, fun _ _ _ => LS X wNo p.2.2)) := by
  induction h with
  | nil => exact .nil
  | cons hc hsu r ih => exact .cons hc (fun a oe cls d pn hz hf => hsu a _) ih
theorem s_try {body : List Stmt} {h₀ : ExceptHandler} {hds : List ExceptHandler} {l : List (Str × Value × MS)} {mb : MS} {em : Str → Str → Bool} (hs : X.stack = X.env :: X.outer) (hf : X.env.frame = some X.env.locals) (tk : Takes X W)
    (hb : ∀ (W' : WX) (pn : List (Addr × Obj)) (xe : Value → Shared → Prop), Takes (X.tr pn xe) W' → PassesOwn (model X.prog X.w) X.A X.env xe → PSs (X.tr pn xe) body (LS X W' mb))
    (hh : HdM X (h₀ :: hds) l) (hem : ∀ x C, X.mg x = some (.ref C) → ∀ p ∈ l, PySem.W.exmOne X.K (.ref C) p.2.1 = some (em x p.1)) : PS X (.Try body (h₀ :: hds) [] [] pos) (LS X W (sTry em mb (l.map fun p => (p.1, p.2.2)))) := by
  refine (ps_try_many (tb := fun W' => LS X W' mb) hs hf tk hb hh.ok).imp fun D σ H ⟨env, c, e, re, rr, h⟩ => ⟨env, c, e, re, rr, ?_⟩
  unfold sTry at h
  cases hm : mb env c.s with
  | ex x fs env' s' =>
    rw [hm] at h
    intro cv dx σ' c' e' st' r' xr re'
    have h' := PostS.step h st'
    simp only at h'
    obtain ⟨C, e1, e2, e3⟩ := id xr
    subst e1
    have key : ∀ l : List (Str × Value × MS), (∀ p ∈ l, PySem.W.exmOne X.K (.ref C) p.2.1 = some (em x p.1)) → PostS (yx X) W D c' (hdl em x fs env' s' (l.map fun p => (p.1, p.2.2))) →
        wMany X.K W D (l.map fun p => (p.2.1, fun _ _ _ => LS X wNo p.2.2)) (.ref C) dx σ' c'.H := by
      intro l
      induction l with
      | nil => exact fun _ z => z (.ref C) dx σ' c' e' Stp.refl r' xr re'
      | cons p l ih =>
        intro hp z
        obtain ⟨y, cc, mm⟩ := p
        refine ⟨em x y, hp _ List.mem_cons_self, fun hb' a na => ?_, fun hb' => ?_⟩
        · simp only [List.map_cons, hdl, hb', if_true] at z
          refine ⟨env', c', rfl, re', r', ?_⟩
          rw [← e'] at z
          show PostS (yx X) wNo D c' (mm env' c'.s)
          cases hmm : mm env' c'.s with
          | ex _ _ _ _ => rw [hmm] at z; exact z.elim
          | nx _ _ => rw [hmm] at z; exact z
          | ret _ _ => rw [hmm] at z; exact z
          | brk _ _ => rw [hmm] at z; exact z
          | cont _ _ => rw [hmm] at z; exact z
          | bad => rw [hmm] at z; exact z.elim
        · simp only [List.map_cons, hdl, hb', Bool.false_eq_true, if_false] at z
          exact ih (fun q hq => hp q (List.mem_cons_of_mem _ hq)) z
    exact key l (hem x C e2) h'
  | nx env' s' => rw [hm] at h; exact h
  | ret d s' => rw [hm] at h; exact h
  | brk env' s' => rw [hm] at h; exact h
  | cont env' s' => rw [hm] at h; exact h
  | bad => rw [hm] at h; exact h
end
end Mp

/-! MP, part I: isinstance, slices, sums of sequences, lists changed, the well. -/
namespace Mp
open PySem PySem.Spec PyProof.Rows L2

/-! ### isinstance -/
def tyP : PyData → String
  | .none => "NoneType"
  | .bool _ => "bool"
  | .int _ => "int"
  | .str _ => "str"
  | .tuple _ => "tuple"
  | .list _ => "list"
  | .dict _ => "dict"
def tyD (d : D) (s : S) : Option String := match d with
  | .p x => some (tyP x)
  | .ref i => (match s.g[i]? with
    | some (some (.lst _)) => some "list"
    | _ => none)
  | _ => none
def isiT (t T : String) : Bool := t == T || (t == "bool" && T == "int")
def isiTys : List String := ["bool", "int", "str", "tuple", "list", "dict"]
theorem isi_kit : (["NoneType", "bool", "int", "str", "tuple", "list", "dict"].all fun t => isiTys.all fun T => kitB t T == some (isiT t T)) = true := by decide +kernel
theorem kit_isi {K : PySem.W.Frag} {t T : String} (ht : t ∈ ["NoneType", "bool", "int", "str", "tuple", "list", "dict"]) (hT : T ∈ isiTys) : PySem.W.kitOne K (.type t) (.type T) = some (isiT t T) := by
  have h := isi_kit
  rw [List.all_eq_true] at h
  have h1 := h t ht
  rw [List.all_eq_true] at h1
  exact kit_ty (by simpa using h1 T hT)
theorem dict_ok {Y : Md} {c : Cf} {kvs : List (PyData × PyData)} {v : V} (q : rd Y c (.p (.dict kvs)) v) : TyX Y.K c.H v (.type "dict") := by
  have q : RP Y.K c.H (.dict kvs) v := q
  simp only [RP] at q
  obtain ⟨a, l, rfl, ⟨o, u, h1, h2⟩, h3⟩ := q
  exact .fDict h1
theorem tyD_ok {Y : Md} {c : Cf} {d : D} {v : V} {t : String} (rr : Rel Y c) (q : rd Y c d v) (e : tyD d c.s = some t) : TyX Y.K c.H v (.type t) ∧ t ∈ ["NoneType", "bool", "int", "str", "tuple", "list", "dict"] := by
  unfold tyD at e
  split at e
  · rename_i x
    cases e
    cases x with
    | none => rw [rd_none q]; exact ⟨.base .non, by simp [tyP]⟩
    | bool b => rw [rd_bool q]; exact ⟨.base (.bl _), by simp [tyP]⟩
    | int b => rw [rd_int q]; exact ⟨.base (.int _), by simp [tyP]⟩
    | str b => rw [rd_str q]; exact ⟨.base (.str _), by simp [tyP]⟩
    | tuple ps =>
      obtain ⟨a, vs, rfl, h1, h2⟩ := rd_tup q
      refine ⟨?_, by simp [tyP]⟩
      rcases h1 with (h1 | ⟨o, h1⟩) | ⟨o, its, n, h1, h3, _⟩
      · exact .base (.tup h1)
      · exact .fTuple h1
      · exact .kTuple h1 h3
    | list ps =>
      obtain ⟨a, vs, rfl, h1, h2⟩ := rd_lst q
      refine ⟨?_, by simp [tyP]⟩
      rcases h1 with ⟨o, h1⟩ | ⟨o, its, n, h1, h3, _⟩
      · exact .base (.frz h1)
      · exact .kList h1 h3
    | dict kvs => exact ⟨dict_ok q, by simp [tyP]⟩
  · rename_i i
    split at e
    · rename_i xs ex
      cases e
      obtain ⟨a, ea, vs, ev, qs⟩ := rr.g i _ ex
      obtain ⟨a', ea', rfl⟩ := q
      rw [ea] at ea'; cases ea'
      exact ⟨.base (.lst ev), by simp⟩
    · cases e
  · cases e
section
variable {X : Cx} {W : WX} {pos : Pos} {a b : Expr} {ma mb : ME} {es : List Expr} {ms : MA}
def fIsi (T : String) : D → S → R D := fun d s => match tyD d s with
  | some t => .ok (.p (.bool (isiT t T))) s
  | none => .bad
def mIsi (T : String) (ma : ME) : ME := fun env s => (ma env s).bind (fIsi T)
theorem e_isi {T : String} {Tn : Str} {p p2 : Pos} (hT : T ∈ isiTys) (hg : Gl X "isinstance") (hm : X.mg "isinstance" = none) (hg2 : Gl X Tn) (hm2 : X.mg Tn = none) (hv2 : bootBuiltins Tn = some (.type T)) (ha : PE X a (LE X W ma)) (hv : bootBuiltins "isinstance" = some (.builtin "isinstance") := by decide +kernel)
    (hn2 : Tn ≠ "__name__" := by decide) (hd2 : (Tn == ("__debug__" : Str)) = false := by decide)
    (he : starEach [a, .Name Tn p2] X.env = (false, eval a X.env) :: starEach [.Name Tn p2] X.env := by rfl) (hpl : (backTo pos (starEach [.Name Tn p2] X.env)).any (·.1) = false := by rfl) :
    PE X (.Call (.Name "isinstance" p) [a, .Name Tn p2] [] pos) (LE X W (mIsi T ma)) := by
  refine (pe_callB call_isi hg hm hv (pa_cons ha (pa_cons (pe_bltn (v := .ty T) hg2 hm2 hv2 rfl hn2 hd2) pa_nil) he) (by decide) (by decide) he hpl).imp fun σ H Q ⟨env, c, e, re, r, h⟩ => ?_
  refine ⟨env, c, e, re, r, h.bind fun d v c1 s1 r1 q1 h1 => ?_⟩
  unfold fIsi at h1
  cases et : tyD d c1.s with
  | none => rw [et] at h1; exact h1.elim
  | some t =>
    rw [et] at h1
    obtain ⟨z1, z2⟩ := tyD_ok r1 q1 et
    exact ⟨v, .ty T, _, _, _, rfl, .ty T, z1, kit_isi z2 hT, h1.p r1 mk_bool⟩

/-! ### slices -/
abbrev MO := Env1 → S → R (Option Int)
def ro : Cf → Option Int → Option Int → Prop := fun _ a b => a = b
def LO (X : Cx) (W : WX) (m : MO) : TO := fun σ H Q => ∃ env c, c.H = H ∧ RE (yx X) c env σ ∧ Rel (yx X) c ∧ Post (yx X) ro (fun cv dx H' => W cv dx σ H') c (m env c.s) Q
def oNo : MO := fun _ s => .ok none s
def oSome (ma : ME) : MO := fun env s => (ma env s).bind fun d s1 => match d with
  | .p (.int i) => .ok (some i) s1
  | _ => .bad
theorem p_no : PO X none (LO X W oNo) := ⟨fun pins s σ H Q I ⟨env, c, e, re, r, h⟩ => po_none.run pins s σ H Q I (by subst e; exact Post.here (Y := yx X) (RA := ro) (a := none) h r rfl)⟩
theorem p_some (ha : PE X a (LE X W ma)) : PO X (some a) (LO X W (oSome ma)) := ⟨fun pins s σ H Q I ⟨env, c, e, re, r, h⟩ => (po_some ha).run pins s σ H Q I ⟨env, c, e, re, r, h.bind fun d v c1 s1 r1 q1 h1 => by
  split at h1
  · exact ⟨_, rd_int q1, Post.here (Y := yx X) (RA := ro) h1 r1 rfl⟩
  · exact h1.elim⟩⟩
def cutL {α : Type} (xs : List α) (lo hi : Option Int) : List α := (xs.drop (HT.sIx xs.length 0 lo)).take (HT.sIx xs.length xs.length hi - HT.sIx xs.length 0 lo)
theorem RPs.drop {K : PySem.W.Frag} {H : Hp} : ∀ {ps : List PyData} {vs : List V} (n : Nat), RPs K H ps vs → RPs K H (ps.drop n) (vs.drop n)
  | _, _, 0, h => by simpa using h
  | [], _, _ + 1, h => by simp only [RPs] at h; subst h; simp [RPs]
  | p :: ps, _, n + 1, h => by
    simp only [RPs] at h
    obtain ⟨v, r, rfl, h1, h2⟩ := h
    simpa using RPs.drop n h2
theorem RPs.take {K : PySem.W.Frag} {H : Hp} : ∀ {ps : List PyData} {vs : List V} (n : Nat), RPs K H ps vs → RPs K H (ps.take n) (vs.take n)
  | _, _, 0, h => by simp [RPs]
  | [], _, _ + 1, h => by simp only [RPs] at h; subst h; simp [RPs]
  | p :: ps, _, n + 1, h => by
    simp only [RPs] at h
    obtain ⟨v, r, rfl, h1, h2⟩ := h
    simp only [List.take_succ_cons, RPs]
    exact ⟨v, _, rfl, h1, RPs.take n h2⟩
theorem cut_rps {K : PySem.W.Frag} {H : Hp} {ps : List PyData} {vs : List V} {lo hi : Option Int} (h : RPs K H ps vs) : RPs K H (cutL ps lo hi) (cutV vs lo hi) := by
  unfold cutL cutV
  rw [h.length]
  exact (h.drop _).take _
/-- a tuple's or a text's part; a list's part that stands for good -/
def fSlice (d : D) (lo hi : Option Int) (s : S) : R D := match d with
  | .p (.tuple ps) => .ok (.p (.tuple (cutL ps lo hi))) s
  | .p (.list ps) => .ok (.p (.list (cutL ps lo hi))) s
  | .p (.str x) => if sizeOk x.length then .ok (.p (.str (cutS x lo hi))) s else .bad
  | .ref j => (match lstP (.ref j) s with
    | some ps => .ok (.p (.list (cutL ps lo hi))) s
    | none => .bad)
  | _ => .bad
def mSlice (ma : ME) (lo hi : MO) : ME := fun env s => (ma env s).bind fun d s1 => (lo env s1).bind fun l s2 => (hi env s2).bind fun h s3 => fSlice d l h s3
theorem sIx_whole {α : Type} {xs : List α} {lo hi : Option Int} (h : HT.sIx xs.length 0 lo = 0 ∧ HT.sIx xs.length xs.length hi = xs.length) : cutL xs lo hi = xs := by
  unfold cutL
  rw [h.1, h.2]
  simp
theorem e_slice {lo hi : Option Expr} {ml mh : MO} {p2 : Pos} (ha : PE X a (LE X W ma)) (hl : PO X lo (LO X W ml)) (hh : PO X hi (LO X W mh)) : PE X (.Subscript a (.Slice lo hi none p2) pos) (LE X W (mSlice ma ml mh)) := by
  refine ((pe_slice ((sl_tupA.or sl_str).or sl_list) ha hl hh).fz).imp fun σ H Q ⟨env, c, e, re, r, h⟩ => ?_
  refine ⟨env, c, e, re, r, h.bind fun d v c1 s1 r1 q1 h1 => ⟨env, c1, rfl, re.step r s1, r1, h1.bind fun l l' c2 s2 r2 ql h2 => ⟨env, c2, rfl, (re.step r s1).step r1 s2, r2, h2.bind fun u u' c3 s3 r3 qu h3 => ?_⟩⟩⟩
  cases ql
  cases qu
  have q3 := (q1.step r1 s2).step r2 s3
  unfold fSlice at h3
  split at h3
  · rename_i ps
    obtain ⟨t, vs, rfl, k1, k2⟩ := rd_tup (Y := yx X) (c := c3) q3
    refine .inl (.inl ⟨t, vs, rfl, k1, fun hw => ?_, fun hn p np => ?_⟩)
    · rw [← k2.length] at hw
      rw [sIx_whole hw] at h3
      exact .done (h3.p r3 q3)
    · exact .done (h3.tup r3 (cut_rps k2) np)
  · rename_i ps
    obtain ⟨t, vs, rfl, k1, k2⟩ := rd_lst (Y := yx X) (c := c3) q3
    exact .inr ⟨t, vs, rfl, k1.sq, fun p np => h3.frz r3 (cut_rps k2) np⟩
  · rename_i x
    split at h3
    · rename_i hz
      exact .inl (.inr ⟨x, rd_str (Y := yx X) (c := c3) q3, of_decide_eq_true hz, .done (h3.p r3 mk_str)⟩)
    · exact h3.elim
  · rename_i j
    split at h3
    · rename_i ps ep
      obtain ⟨t, vs, rfl, k1, k2⟩ := lstP_ok r3 q3 ep
      exact .inr ⟨t, vs, rfl, k1, fun p np => h3.frz r3 (cut_rps k2) np⟩
    · exact h3.elim
  · exact h3.elim

/-! ### sums of tuples, of own lists; a tuple so many times -/
def dAdd : D → D → S → R D := fun d1 d2 s => match d1, d2 with
  | .p (.tuple ps), .p (.tuple qs) => if sizeOk (ps.length + qs.length) then .ok (.p (.tuple (ps ++ qs))) s else .bad
  | .p (.list ps), .p (.list qs) => if sizeOk (ps.length + qs.length) then kNew ((ps ++ qs).map .p) s else .bad
  | .p a, .p b => ret1 (iAdd a b) s
  | .ref i, .ref j => (match s.g[i]?, s.g[j]? with
    | some (some (.lst xs)), some (some (.lst ys)) => if sizeOk (xs.length + ys.length) then kNew (xs ++ ys) s else .bad
    | _, _ => .bad)
  | _, _ => .bad
theorem Paired.app {α β : Type} {F : α → β → Prop} {l1 l2 : List α} {m1 m2 : List β} (p1 : Paired F l1 m1) (p2 : Paired F l2 m2) : Paired F (l1 ++ l2) (m1 ++ m2) := by
  induction p1 with
  | nil => exact p2
  | cons q t ih => exact .cons q ih
/-- any two lists -/
def rCatF (K : PySem.W.Frag) : R2 := fun x y H Q => ∃ a b xs ys, x = .ref a ∧ y = .ref b ∧ SqL K H a xs ∧ SqL K H b ys ∧ xs.length + ys.length ≤ sizeLine ∧ ∀ p, H p = none → Q (.ref p) (upd H p (.lst (xs ++ ys)))
theorem op_catF : OpR X (binaryOp .Add) (rCatF X.K) := by
  intro pins s σ H x y v u Q I rx ry h
  obtain ⟨a, b, xs, ys, rfl, rfl, ha, hb, hz, q⟩ := h
  cases rx
  cases ry
  obtain ⟨i1, r1, ⟨o1, n1, g1, c1, d1, e1⟩, _⟩ := I.list ha
  obtain ⟨i2, r2, ⟨o2, n2, g2, c2, d2, e2⟩, _⟩ := I.list hb
  have l1 := r1.length
  have l2 := r2.length
  obtain ⟨k1, z1, f1, sl1⟩ := o1
  obtain ⟨k2, z2, f2, sl2⟩ := o2
  simp only at c1 d1 e1 c2 d2 e2
  subst c1 d1 e1 c2 d2 e2
  refine concat_meets ⟨_, g1, rfl⟩ ⟨_, g2, rfl⟩ noFill_list_add seq_list_add PySem.F.slot_list_add PySem.F.entry_list_add (PySem.F.args_list_add_2 _ _)
    (list_addW a b i1.toArray i2.toArray n1 n2 none none sl1 sl2 (by simp; omega)) ⟨g1, g2, ?_⟩
  have ea : i1.toArray ++ i2.toArray = (i1 ++ i2).toArray := by simp
  rw [ea]
  exact ⟨.ref _, _, I.lnew (t' := s.toks) (r1.append r2) (by rw [List.length_append]; omega), rfl, q _ I.fresh⟩
theorem o_add : Op2 X (binaryOp .Add) dAdd := by
  refine ⟨_, (((op_add.or op_add_str).or op_catA).or op_cat).or op_catF, fun WE c d1 d2 v1 v2 Q rr q1 q2 h => ?_⟩
  unfold dAdd at h
  split at h
  · rename_i ps qs
    split at h
    · rename_i hz
      obtain ⟨t1, us, rfl, k1, k2⟩ := rd_tup q1
      obtain ⟨t2, ws, rfl, k3, k4⟩ := rd_tup q2
      refine .inl (.inl (.inr ⟨t1, t2, us, ws, rfl, rfl, k1, k3, by rw [← k2.length, ← k4.length]; exact of_decide_eq_true hz, fun e => ?_, fun n e => ?_, fun n1 n2 p np => h.tup rr (k2.app k4) np⟩))
      · have : ps = [] := by
          have := k2.length
          rw [e] at this
          exact List.length_eq_zero_iff.mp this
        subst this
        exact h.p rr q2
      · have : qs = [] := by
          have := k4.length
          rw [e] at this
          exact List.length_eq_zero_iff.mp this
        subst this
        rw [List.append_nil] at h
        exact h.p rr q1
    · exact h.elim
  · rename_i ps qs
    split at h
    · rename_i hz
      obtain ⟨t1, us, rfl, k1, k2⟩ := rd_lst q1
      obtain ⟨t2, ws, rfl, k3, k4⟩ := rd_lst q2
      refine .inr ⟨t1, t2, us, ws, rfl, rfl, k1.sq, k3.sq, by rw [← k2.length, ← k4.length]; exact of_decide_eq_true hz, fun p np => ?_⟩
      exact kNew_put h rr (by rw [List.map_append]; exact Paired.app (RPs.rds k2) (RPs.rds k4)) np
    · exact h.elim
  · rename_i a b _ _
    unfold ret1 at h
    split at h
    · rename_i x e
      unfold iAdd at e
      split at e
      · cases e
        exact .inl (.inl (.inl (.inl ⟨_, _, rd_int q1, rd_int q2, h.p rr mk_int⟩)))
      · split at e
        · rename_i hz
          cases e
          exact .inl (.inl (.inl (.inr ⟨_, _, rd_str q1, rd_str q2, of_decide_eq_true hz, h.p rr mk_str⟩)))
        · cases e
      · cases e
    · exact h.elim
  · rename_i i j
    split at h
    · rename_i xs ys ex ey
      split at h
      · rename_i hz
        obtain ⟨t1, e1, us, ev1, qs1⟩ := rr.g i _ ex
        obtain ⟨t1', e1', rfl⟩ := q1
        rw [e1] at e1'; cases e1'
        obtain ⟨t2, e2, ws, ev2, qs2⟩ := rr.g j _ ey
        obtain ⟨t2', e2', rfl⟩ := q2
        rw [e2] at e2'; cases e2'
        exact .inl (.inr ⟨t1, t2, us, ws, rfl, rfl, ev1, ev2, by rw [← Paired.length qs1, ← Paired.length qs2]; exact of_decide_eq_true hz, fun p np => kNew_put h rr (Paired.app qs1 qs2) np⟩)
      · exact h.elim
    · exact h.elim
  · exact h.elim
theorem RPs.rep {K : PySem.W.Frag} {H : Hp} {ps : List PyData} {vs : List V} (h : RPs K H ps vs) : ∀ n : Nat, RPs K H (List.replicate n ps).flatten (List.replicate n vs).flatten
  | 0 => by simp [RPs]
  | n + 1 => by
    rw [List.replicate_succ, List.replicate_succ, List.flatten_cons, List.flatten_cons]
    exact h.app (RPs.rep h n)
set_option maxHeartbeats 4000000 in
theorem tuple_mulZ (l : Addr) (n : Nat) (dd : Option Addr) (sl : Array (Option Value)) (x : Int) (u : Tok) (c0 : (decide (x < -(2 ^ 63)) || decide (x ≥ 2 ^ 63)) = false) :
    Meets (Builtin.«tuple.__mul__» ⟨[.ref l, .int x u], []⟩) (fun _ F s => s.heap.get? l = some { cls := .type "tuple", dict := dd, data := .seq #[] n, slots := sl } ∧ F (.ok (.ret (Value.ref l))) s) :=
  .of_wp fun prog w A F s h => by
    obtain ⟨hp, g, d, tk, os⟩ := s
    obtain ⟨hl, h⟩ := h
    have f1 := AutoSeq1.idx_int
    wp_walk using wpAny_loadPart' hl
    refine wpAny_ite_false (decide_eq_false (by rw [c0]; exact Bool.false_ne_true)) ?_
    wp_walk using wpAny_loadPart' hl
    exact ⟨_, rfl, h⟩
def rRepZ (K : PySem.W.Frag) : R2 := fun x y H Q => ∃ l k, x = .ref l ∧ y = .int k ∧ SqT K H l [] ∧ 2 ≤ k ∧ k ≤ 1000 ∧ Q (.ref l) H
theorem op_repZ : OpR X (binaryOp .Mult) (rRepZ X.K) := by
  intro pins s σ H x y v u Q I rx ry h
  obtain ⟨l, k, rfl, rfl, hT, h1, h2, q⟩ := h
  cases rx
  obtain ⟨t, rfl⟩ := ry
  obtain ⟨its, r, ⟨⟨cls, dd, data, sl⟩, ho, hc, n, hd⟩, hs⟩ := I.tuple hT
  simp only at hc hd
  subst hc hd
  cases r
  have c0 : (decide (k < -(2 ^ 63)) || decide (k ≥ 2 ^ 63)) = false := by
    rw [decide_eq_false (by omega), decide_eq_false (by omega)]
    rfl
  refine wpAny_binaryOp_repeat_ref (T := "tuple") (U := "int") (by decide) ⟨_, ho, rfl⟩ (fun s' => typeIs_int s' k t) noFill_tuple_mul F.fills_int_mul F.slot_int_rmul repeat_tuple F.slot_int_index.lookup ?_
  refine call_meets F.slot_int_rmul (typeIs_int s k t) F.entry_int_rmul (F.args_int_rmul_2 _ _) (int_rmul_tuple k t l #[] n dd sl) ⟨ho, rfl, ⟨_, ho, rfl⟩, ?_⟩
  refine call_meets F.slot_tuple_mul ⟨_, ho, rfl⟩ F.entry_tuple_mul (F.args_tuple_mul_2 _ _) (tuple_mulZ l n dd sl k t c0) ⟨ho, ?_⟩
  exact ⟨.ref l, H, I, rfl, q⟩
def iMulT : PyData → PyData → Option PyData
  | .tuple ps, .int k => if 2 ≤ k ∧ k ≤ 1000 ∧ ps.length ≤ 1000 then some (.tuple (List.replicate k.toNat ps).flatten) else none
  | a, b => iMul a b
def dMul : D → D → S → R D := pp2 iMulT
theorem o_mulT : Op2 X (binaryOp .Mult) dMul := by
  refine ⟨_, (op_mul.or op_repT).or op_repZ, link_pp2 fun WE c a b x v1 v2 Q rr q1 q2 e h => ?_⟩
  unfold iMulT at e
  split at e
  · rename_i ps k
    split at e
    · rename_i hz
      cases e
      obtain ⟨t, us, rfl, k1, k2⟩ := rp_tup q1
      by_cases z : ps = []
      · subst z
        have hu : us = [] := List.length_eq_zero_iff.mp k2.length.symm
        subst hu
        refine .inr ⟨t, k, rfl, rp_int q2, k1, hz.1, hz.2.1, h.p rr ?_⟩
        have : (List.replicate k.toNat ([] : List PyData)).flatten = [] := by simp
        rw [this]
        exact q1
      · refine .inl (.inr ⟨t, k, us, rfl, rp_int q2, k1, fun y => ?_, hz.1, hz.2.1, by rw [← k2.length]; exact hz.2.2, fun p np => h.tup rr (k2.rep _) np⟩)
        have := k2.length
        rw [y] at this
        exact z (List.length_eq_zero_iff.mp this)
    · cases e
  · unfold iMul at e
    split at e
    · split at e
      · rename_i hz
        cases e
        exact .inl (.inl ⟨_, _, rp_int q1, rp_int q2, by unfold mulOk at hz; exact (of_decide_eq_true hz :), h.p rr mk_int⟩)
      · cases e
    · cases e

/-! ### methods of built-in types -/
def isTy (T : String) (d : D) (s : S) : Bool := match d with
  | .p (.str _) => T == "str"
  | .p (.list _) => T == "list"
  | .ref i => (match s.g[i]? with
    | some (some (.lst _)) => T == "list"
    | some (some (.dct _)) => T == "dict"
    | _ => false)
  | _ => false
theorem isTy_ok {Y : Md} {c : Cf} {d : D} {v : V} {T : String} (rr : Rel Y c) (q : rd Y c d v) (e : isTy T d c.s = true) : tyV Y.K T v c.H := by
  unfold isTy at e
  split at e
  · rw [rd_str q]; exact beq_iff_eq.mp e
  · obtain ⟨a, vs, rfl, h1, _⟩ := rd_lst q
    exact .inl ⟨beq_iff_eq.mp e, vs, h1.sq⟩
  · rename_i i
    split at e
    · rename_i xs ex
      obtain ⟨a, ea, vs, ev, qs⟩ := rr.g i _ ex
      obtain ⟨a', ea', rfl⟩ := q
      rw [ea] at ea'; cases ea'
      exact .inl ⟨beq_iff_eq.mp e, vs, SqL.of ev⟩
    · rename_i xs ex
      obtain ⟨a, ea, u, l, ev, mu, hd, _⟩ := rr.g i _ ex
      obtain ⟨a', ea', rfl⟩ := q
      rw [ea] at ea'; cases ea'
      refine .inr (.inr (.inl ⟨beq_iff_eq.mp e, ?_⟩))
      cases u <;> first | exact hd.elim | exact .inl ⟨_, ev⟩ | exact .inr ⟨_, ev⟩
    · cases e
  · cases e
def LinkM (Y : Md) (f : D → List D → S → R D) (r : V → List V → Hp → VK → Prop) : Prop := ∀ WE c d ds v vs Q, Rel Y c → rd Y c d v → rds Y c ds vs → Post Y (rd Y) WE c (f d ds c.s) Q → r v vs c.H Q
def MethX (X : Cx) (id : String) (f : D → List D → S → R D) : Prop := ∃ r, MtR X id r ∧ LinkM (yx X) f r
def mMeth (T : String) (f : D → List D → S → R D) (ma : ME) (ms : MA) : ME := fun env s => (ma env s).bind fun d s1 => if isTy T d s1 then (ms env s1).bind fun ds s2 => f d ds s2 else .bad
section
variable {o e : Expr} {mo : ME} {name : Str} {apos cpos : Pos} {T id : String} {f : D → List D → S → R D}
theorem e_meth (pa : PlainAttrs T) (slot : Slot T name id) (hty : typeOf (.builtin id) = pure (.type "method_descriptor")) (hm : MethX X id f) (ho : PE X o (LE X W mo)) (ha : PA X (e :: es) (LA X W ms))
    (hbase : attributeBase o name X.env (eval o X.env) = eval o X.env := by rfl)
    (hfew : ((backTo cpos (starEach (e :: es) X.env)).all (fun x => !x.1) && (backToKw cpos (keywordEach [] X.env)).all (fun x => x.1.isSome) && decide ((e :: es).length + ([] : List Keyword).length + (if ([] : List Keyword).isEmpty then 0 else 1) < 30)) = true := by rfl)
    (hline : (apos.endLine == cpos.line) = true := by rfl) (hs : starEach (e :: es) X.env = (false, eval e X.env) :: starEach es X.env := by rfl) (hplain : (backTo cpos (starEach es X.env)).any (·.1) = false := by rfl) :
    PE X (.Call (.Attribute o name apos) (e :: es) [] cpos) (LE X W (mMeth T f mo ms)) := by
  obtain ⟨r, hr, hl⟩ := hm
  refine (pe_bm pa slot hty hr ho ha hbase hfew hline hs hplain).imp fun σ H Q ⟨env, c, e, re, rr, h⟩ => ⟨env, c, e, re, rr, h.bind fun d v c1 s1 r1 q1 h1 => ?_⟩
  split at h1
  · rename_i ht
    exact ⟨isTy_ok r1 q1 ht, env, c1, rfl, re.step rr s1, r1, h1.bind fun ds vs c2 s2 r2 q2 h2 => hl _ c2 d ds v vs Q r2 (q1.step r1 s2) q2 h2⟩
  · exact h1.elim
theorem e_meth0 (pa : PlainAttrs T) (slot : Slot T name id) (hty : typeOf (.builtin id) = pure (.type "method_descriptor")) (hm : MethX X id f) (ho : PE X o (LE X W mo))
    (h : PE X (.Call (.Attribute o name apos) [] [] cpos) (LE X W (mMeth T f mo mNil))) : PE X (.Call (.Attribute o name apos) [] [] cpos) (LE X W (mMeth T f mo mNil)) := h
end
/-- an own list is changed -/
theorem Post.put {Y : Md} {WE : Value → Option Addr → Hp → Prop} {c : Cf} {i : Nat} {a : Addr} {ds ds' : List D} {us vs : List V} {x : PyData} {v : V} {Q : VK} (h : Post Y (rd Y) WE c (.ok (.p x) { c.s with g := c.s.g.set i (some (.lst ds')) }) Q) (r : Rel Y c) (h0 : c.s.g[i]? = some (some (.lst ds))) (ha : c.m[i]? = some a)
    (hv : c.H a = some (.lst us)) (q : RDs Y c.m c.o c.H ds' vs) (qx : RP Y.K c.H x v) : Q v (upd c.H a (.lst vs)) := by
  have st : Stay c.H (upd c.H a (.lst vs)) := stay_poke fun w e => by rw [hv] at e; cases e; trivial
  refine h v (c.put i a (.lst vs) (some (.lst ds'))) rfl (Stp.put h0 ha) (r.put h0 ha (fun y e => ?_) st) (qx.stay st)
  cases e
  exact ⟨vs, upd_same, RDs.up (fun _ _ z => z) (fun _ _ z => z) st q⟩
def fAppend : D → List D → S → R D := fun d ds s => match d, ds with
  | .ref i, [x] => (match s.g[i]? with
    | some (some (.lst xs)) => if sizeOk (xs.length + 1) then .ok (.p .none) { s with g := s.g.set i (some (.lst (xs ++ [x]))) } else .bad
    | _ => .bad)
  | _, _ => .bad
theorem m_append : MethX X "list.append" fAppend := ⟨_, mt_append, fun WE c d ds v vs Q rr q1 q2 h => by
  unfold fAppend at h
  split at h
  · rename_i i x
    split at h
    · rename_i xs ex
      split at h
      · rename_i hz
        obtain ⟨a, ea, us, ev, qs⟩ := rr.g i _ ex
        obtain ⟨a', ea', rfl⟩ := q1
        rw [ea] at ea'; cases ea'
        obtain ⟨u, rfl, qu⟩ := rds1 q2
        have hz' : xs.length + 1 ≤ sizeLine := of_decide_eq_true hz
        exact ⟨a, us, u, rfl, rfl, ev, by rw [← Paired.length qs]; omega, h.put rr ex ea ev (Paired.app qs (.cons qu .nil)) mk_none⟩
      · exact h.elim
    · exact h.elim
  · exact h.elim⟩
theorem e_append {o e : Expr} {mo : ME} {apos cpos : Pos} (ho : PE X o (LE X W mo)) (ha : PA X [e] (LA X W ms)) (hbase : attributeBase o "append" X.env (eval o X.env) = eval o X.env := by rfl)
    (hfew : ((backTo cpos (starEach [e] X.env)).all (fun x => !x.1) && (backToKw cpos (keywordEach [] X.env)).all (fun x => x.1.isSome) && decide ([e].length + ([] : List Keyword).length + (if ([] : List Keyword).isEmpty then 0 else 1) < 30)) = true := by rfl)
    (hline : (apos.endLine == cpos.line) = true := by rfl) (hs : starEach [e] X.env = (false, eval e X.env) :: starEach [] X.env := by rfl) : PE X (.Call (.Attribute o "append" apos) [e] [] cpos) (LE X W (mMeth "list" fAppend mo ms)) :=
  e_meth PySem.F.plainAttrs_list PySem.F.slot_list_append PySem.F.type_list_append m_append ho ha hbase hfew hline hs

/-! ### o[i] = e -/
def setIx (o i d : D) (s : S) : Option S := match o, i with
  | .ref j, .p (.int k) => (match s.g[j]? with
    | some (some (.lst xs)) => (ixN xs.length k).map fun n => { s with g := s.g.set j (some (.lst (xs.set n d))) }
    | _ => none)
  | _, _ => none
def gIx (mo mi : ME) : MG := fun d env s => (mo env s).bind fun o s1 => (mi env s1).bind fun i s2 => match setIx o i d s2 with
  | some s3 => .ok env s3
  | none => .bad
theorem Paired.set {α β : Type} {F : α → β → Prop} {l1 : List α} {m1 : List β} {x : α} {y : β} (p : Paired F l1 m1) (q : F x y) : ∀ n : Nat, Paired F (l1.set n x) (m1.set n y) := by
  induction p with
  | nil => intro n; exact .nil
  | cons q' t ih =>
    intro n
    cases n with
    | zero => exact .cons q t
    | succ n => exact .cons q' (ih n)
/-- how the model stores at an index -/
def AsgIx (X : Cx) (o i : Expr) (pos : Pos) : Prop := ∀ v, assign (.Subscript o i pos) X.env v = (do let ov ← holding [v] (eval o X.env); let iv ← holding [v, ov] (eval i X.env); standAt pos; holding [v, ov, iv] (setItem ov iv v); release [v, ov, iv] [])
theorem g_ix {o i : Expr} {mo mi : ME} (ho : PE X o (LE X W mo)) (hi : PE X i (LE X W mi)) (ha : AsgIx X o i pos := by intro _; rfl) : PG X (.Subscript o i pos) (LG X W (gIx mo mi)) := by
  refine (pg_sub ho hi set_list ha).imp fun v σ H Q ⟨d, env, c, e, re, r, q, h⟩ => ?_
  refine ⟨env, c, e, re, r, h.bind fun o' vo c1 s1 r1 q1 h1 => ⟨env, c1, rfl, re.step r s1, r1, h1.bind fun i' vi c2 s2 r2 q2 h2 => ?_⟩⟩
  split at h2
  · rename_i s3 e3
    unfold setIx at e3
    split at e3
    · rename_i j k
      split at e3
      · rename_i xs ex
        obtain ⟨n, en, e4⟩ := Option.map_eq_some_iff.mp e3
        subst e4
        obtain ⟨a, ea, us, ev, qs⟩ := r2.g j _ ex
        obtain ⟨a', ea', rfl⟩ := q1.step r1 s2
        rw [ea] at ea'; cases ea'
        have st : Stay c2.H (upd c2.H a (.lst (us.set n v))) := stay_poke fun w e => by rw [ev] at e; cases e; trivial
        refine ⟨a, us, k, n, rfl, rd_int q2, ev, by rw [← Paired.length qs]; exact en, ?_⟩
        have qv := (q.step r s1).step r1 s2
        refine h2 σ (c2.put j a (.lst (us.set n v)) (some (.lst (xs.set n d)))) rfl (Stp.put ex ea) (r2.put ex ea (fun y e => ?_) st) ?_
        · cases e
          exact ⟨_, upd_same, RDs.up (fun _ _ z => z) (fun _ _ z => z) st (Paired.set qs qv n)⟩
        · exact ((re.step r s1).step r1 s2).step r2 (Stp.put ex ea)
      · cases e3
    · cases e3
  · exact h2.elim

/-! ### x op= e -/
def sAug (i : Nat) (f : D → D → S → R D) (ma : ME) : MS := fun env s => match env[i]? with
  | some (some d) => (ma env s).thn env fun d2 s1 => (f d d2 s1).thn env fun d3 s2 => .nx (env.set i (some d3)) s2
  | _ => .bad
theorem s_aug {i : Nat} {x : Str} {op : Operator} {f : D → D → S → R D} {pos' : Pos} (hN : X.N.Nodup) (ho : Op2 X (inplaceOp op) f) (ha : PE X a (LE X W ma)) (hi : X.N[i]? = some x := by rfl) (hx : Loc X.env.scope x := by first | exact Or.inl rfl | exact Or.inr rfl)
    (hf : X.fn x = true ∨ X.env.scope.names.lookup x = some .local := by first | exact .inl rfl | exact .inr rfl) : PS X (.AugAssign (.Name x pos') op a pos) (LS X W (sAug i f ma)) := by
  obtain ⟨r, hr, hl⟩ := ho
  refine (ps_aug (ti := r) hN hi hx ha (fun pins s σ H x y v u Q I rx ry q => hr pins s σ H x y v u Q I rx ry q) hf).imp fun D σ H ⟨env, c, e, re, rr, h⟩ => ?_
  unfold sAug at h
  split at h
  · rename_i d ed
    obtain ⟨v, ev, q⟩ := re.2 i d ed
    refine ⟨v, ev, env, c, e, re, rr, h.bind (RA := rd (yx X)) re rr fun d2 v2 c1 s1 r1 q1 h1 => ?_⟩
    refine hl (fun cv dx H' => W cv dx σ H') c1 d d2 v v2 _ r1 (q.step rr s1) q1 ?_
    exact h1.bind (RA := rd (yx X)) (re.step rr s1) r1 fun d3 v3 c2 s2 r2 q3 h2 => h2 _ c2 rfl Stp.refl r2 (((re.step rr s1).step r1 s2).set i q3)
  · exact h.elim
end
end Mp

/-! MP, part J: a dict display, what is handed back, defs as facts, the well. -/
namespace Mp
open PySem PySem.Spec PyProof.Rows L2
section
variable {X : Cx} {W : WX} {pos : Pos} {a b : Expr} {ma mb : ME} {es : List Expr} {ms : MA}

/-! ### {k: e, ..}, the keys written, unlike; it stands for good -/
def DP (X : Cx) (W : WX) (pos : Pos) (keys : List (Option Expr)) (values : List Expr) (ks : List L2.Key) (ms : MA) : Prop :=
  ∃ trs, PPs X pos keys values trs ∧ ∀ σ H Q, LA X W ms σ H (fun us H' => us.length = ks.length → Q (List.zip (ks.map kV) us) H') → tPairs trs σ H Q
theorem dp_nil : DP X W pos [] [] [] mNil := ⟨[], pps_nil, fun σ H Q ⟨env, c, e, re, r, h⟩ => by
  subst e
  exact Post.here (Y := yx X) (RA := rds (yx X)) (a := []) (b := []) h r .nil rfl⟩
theorem dp_of {keys : List (Option Expr)} {values : List Expr} {ks : List L2.Key} {k : L2.Key} {ke ve : Expr} {mv : ME} (hk : PE X ke (tC (kV k))) (hv : PE X ve (LE X W mv)) (hr : DP X W pos keys values ks ms) : DP X W pos (some ke :: keys) (ve :: values) (k :: ks) (mCons mv ms) := by
  obtain ⟨trs, h1, h2⟩ := hr
  refine ⟨_, pps_cons hk hv h1, fun σ H Q ⟨env, c, e, re, r, h⟩ => ⟨env, c, e, re, r, h.bind fun d v c1 s1 r1 q1 h3 => h2 σ c1.H _ ⟨env, c1, rfl, re.step r s1, r1, h3.bind fun ds vs c2 s2 r2 q2 h4 => fun hl => ?_⟩⟩⟩
  exact Post.here (Y := yx X) (RA := rds (yx X)) h4 r2 (.cons (q1.step r1 s2) q2) (by simp [hl])
theorem dp_str {keys : List (Option Expr)} {values : List Expr} {ks : List L2.Key} {x : Str} {j : Nat} {p2 : Pos} {ve : Expr} {mv : ME} (hv : PE X ve (LE X W mv)) (hr : DP X W pos keys values ks ms) : DP X W pos (some (.Constant (.str x) j p2) :: keys) (ve :: values) (.inr x :: ks) (mCons mv ms) := dp_of (k := .inr x) pe_str hv hr
theorem dp_int {keys : List (Option Expr)} {values : List Expr} {ks : List L2.Key} {x : Int} {j : Nat} {p2 : Pos} {ve : Expr} {mv : ME} (hv : PE X ve (LE X W mv)) (hr : DP X W pos keys values ks ms) : DP X W pos (some (.Constant (.int x) j p2) :: keys) (ve :: values) (.inl x :: ks) (mCons mv ms) := dp_of (k := .inl x) pe_int hv hr
def mDictF (ks : List L2.Key) (ms : MA) : ME := fun env s => (ms env s).bind fun ds s1 => match allP ds with
  | some ps => if ps.length = ks.length then .ok (.p (.dict (List.zip (ks.map keyD) ps))) s1 else .bad
  | none => .bad
theorem putK_new {kvs : List (L2.Key × V)} {k : L2.Key} {v : V} (h : k ∉ kvs.map (·.1)) : putK kvs k v = kvs ++ [(k, v)] := by
  unfold putK
  rw [if_neg]
  rw [List.any_eq_true]
  rintro ⟨p, hp, e⟩
  exact h (List.mem_map.mpr ⟨p, hp, of_decide_eq_true e⟩)
theorem Post.bind0 {α β γ δ : Type} {Y : Md} {RA : Cf → α → β → Prop} {RC : Cf → γ → δ → Prop} {WE : Value → Option Addr → Hp → Prop} {c0 c : Cf} {ra : R α} {f : α → S → R γ} {Q : δ → Hp → Prop} {Q1 : β → Hp → Prop} (h : Post Y RC WE c0 (ra.bind f) Q) (s : Stp c0 c)
    (k : ∀ a b c1, Stp c c1 → Rel Y c1 → RA c1 a b → Post Y RC WE c0 (f a c1.s) Q → Q1 b c1.H) : Post Y RA WE c ra Q1 := by
  cases ra with
  | ok a s' => exact fun b c2 e s2 r2 ra => k a b c2 s2 r2 ra (by rw [e]; exact h)
  | ex x fs s' => exact fun cv dx c2 e s2 r2 xr => h cv dx c2 e (s.trans s2) r2 xr
  | bad => exact h
theorem mergeK_new : ∀ {more kvs : List (L2.Key × V)}, (kvs.map (·.1) ++ more.map (·.1)).Nodup → mergeK kvs more = kvs ++ more
  | [], kvs, _ => by simp [mergeK]
  | (k, v) :: r, kvs, h => by
    have hk : k ∉ kvs.map (·.1) := fun e => by
      rw [List.nodup_append] at h
      exact h.2.2 k e k (by simp) rfl
    have : mergeK kvs ((k, v) :: r) = mergeK (putK kvs k v) r := rfl
    rw [this, putK_new hk, mergeK_new]
    · simp
    · simpa using h
theorem zip_rpd {K : PySem.W.Frag} {H : Hp} : ∀ {ks : List L2.Key} {ps : List PyData} {us : List V}, ps.length = ks.length → RPs K H ps us → RPd K H (List.zip (ks.map keyD) ps) ((List.zip ks us).map fun p => (keyD p.1, p.2))
  | [], [], _, _, h => by simp only [RPs] at h; subst h; simp [RPd]
  | [], _ :: _, _, e, _ => by simp at e
  | _ :: _, [], _, e, _ => by simp at e
  | k :: ks, p :: ps, _, e, h => by
    simp only [RPs] at h
    obtain ⟨v, r, rfl, h1, h2⟩ := h
    simp only [List.map_cons, List.zip_cons_cons, RPd]
    exact ⟨v, _, rfl, h1, zip_rpd (by simpa using e) h2⟩
theorem e_dictF {keys : List (Option Expr)} {values : List Expr} {ks : List L2.Key} (h : DP X W pos keys values ks ms) (hn : ks.Nodup) (h15 : ks.length ≤ 15) (hall : keys.all (·.isSome) = true := by rfl) (hl : keys.length = values.length := by rfl) (h0 : keys ≠ [] := by intro z; cases z) (hk15 : keys.length ≤ 15 := by decide) :
    PE X (.Dict keys values pos) (LE X W (mDictF ks ms)) := by
  obtain ⟨trs, h1, h2⟩ := h
  refine ((pe_disp h1 hall hl h0 hk15).fz).imp fun σ H Q ⟨env, c, e, re, r, h⟩ => fun p np => ?_
  subst e
  have st : Stp c (c.at p (.dK [])) := Stp.at np
  have r' := r.at (u := .dK []) np
  refine h2 σ _ _ ⟨env, c.at p (.dK []), rfl, re.step r st, r', ?_⟩
  have nO' : ¬ (c.at p (.dK [])).Own p := r.freshOwn np
  refine h.bind0 (RA := rds (yx X)) st fun ds us c1 s1 r1 q1 h3 => fun hlen => ?_
  have hD : c1.H p = some (.dK []) := s1.ext p _ upd_same nO'
  have nO : ¬ c1.Own p := fun z => by
    rcases s1.own p z with z | z
    · exact nO' z
    · rw [show (c.at p (.dK [])).H p = some (.dK []) from upd_same] at z; cases z
  cases e2 : allP ds with
  | none => rw [e2] at h3; exact h3.elim
  | some ps =>
    rw [e2] at h3
    simp only at h3
    split at h3
    · rename_i hps
      have q2 := allP_ok q1 e2
      refine ⟨hD, List.zip ks us, ?_, by rw [List.length_zip]; omega, ?_⟩
      · have : ∀ (ks : List L2.Key) (us : List V), List.zip (ks.map kV) us = (List.zip ks us).map fun kv => (kV kv.1, kv.2) := by
          intro ks
          induction ks with
          | nil => intro us; simp
          | cons k ks ih => intro us; cases us with
            | nil => simp
            | cons u us => simp [ih]
        exact this ks us
      · have hks : (List.zip ks us).map (·.1) = ks := by
          rw [List.map_fst_zip]
          omega
        rw [mergeK_new (by simpa [hks] using hn)]
        simp only [List.nil_append]
        refine .one p (.dK (List.zip ks us)) upd_same trivial fun o => .done ?_
        rw [upd_upd]
        have stay : Stay c1.H (upd c1.H p (.frz o (.dK (List.zip ks us)))) := stay_poke fun w e => by rw [hD] at e; cases e; trivial
        refine h3 (.ref p) { c1 with H := upd c1.H p (.frz o (.dK (List.zip ks us))) } rfl ?_ (r1.poke hD trivial nO) ?_
        · exact (st.trans s1).poke (.inl np)
        · show RP X.K _ (.dict _) (.ref p)
          simp only [RP]
          exact ⟨p, _, rfl, ⟨o, _, upd_same, rfl⟩, RPd.stay stay (zip_rpd hps q2)⟩
    · exact h3.elim

/-! ### what is handed back stands for good -/
def frzD (d : D) (s : S) : R D := match d with
  | .p x => .ok (.p x) s
  | .ref i => (match s.g[i]? with
    | some (some (.lst ds)) => (match allP ds with
      | some ps => .ok (.p (.list ps)) { s with g := s.g.set i none }
      | none => .bad)
    | _ => .bad)
  | _ => .bad
def mFrz (ma : ME) : ME := fun env s => (ma env s).bind frzD
theorem e_frz {e : Expr} (ha : PE X e (LE X W ma)) : PE X e (LE X W (mFrz ma)) := by
  refine (ha.fz).imp fun σ H Q ⟨env, c, e, re, r, h⟩ => ⟨env, c, e, re, r, h.bind fun d v c1 s1 r1 q1 h1 => ?_⟩
  unfold frzD at h1
  split at h1
  · exact .done (h1.p r1 q1)
  · rename_i i
    split at h1
    · rename_i ds ex
      split at h1
      · rename_i ps ep
        obtain ⟨a, ea, us, ev, qs⟩ := r1.g i _ ex
        obtain ⟨a', ea', rfl⟩ := q1
        rw [ea] at ea'; cases ea'
        refine .one a (.lst us) ev trivial fun o => .done ?_
        have st : Stay c1.H (upd c1.H a (.frz o (.lst us))) := stay_poke fun w e => by rw [ev] at e; cases e; trivial
        refine h1 (.ref a) (c1.put i a (.frz o (.lst us)) none) rfl (Stp.put ex ea) (r1.put ex ea (fun y e => by cases e) st) ?_
        show RP X.K (upd c1.H a (.frz o (.lst us))) (.list ps) (.ref a)
        simp only [RP]
        exact ⟨a, us, rfl, .inl ⟨o, upd_same⟩, RPs.stay st (allP_ok qs ep)⟩
      · exact h1.elim
    · exact h1.elim
  · exact h1.elim
end

/-! ### defs as facts -/
/-- the module's def x keeps the promise of the mirror m (n arguments), at level k -/
def DefOk (P : Program) (w : World) (K : PySem.W.Frag) (mg : Str → Option Value) (base : Heap) (x : Str) (k n : Nat) (m : List D → S → R D) : Prop :=
  ∃ (f : Addr) (fd : FuncData) (ps : List Str), FnOk P w K mg base (L2.CX P w) k f fd ps (spM ⟨K, mg⟩ n m) ∧ mg x = some (.ref f) ∧ PySem.W.keepIn K (.ref f) = true ∧ Binds K fd ps [] ∧ ps.length = n
/-- a def of the text as it stands behind the top -/
def DefAt (K : PySem.W.Frag) (mg : Str → Option Value) (x : Str) (st : Stmt) : Prop := ∃ (f : Addr) (fd : FuncData), FunD K x x (defArgs st) (defBody st) (defScope st) [] [] f fd ∧ mg x = some (.ref f)
theorem DefOk.mono {P : Program} {w : World} {K : PySem.W.Frag} {mg : Str → Option Value} {base : Heap} {x : Str} {j k n : Nat} {m : List D → S → R D} (h : DefOk P w K mg base x j n m) (hk : j ≤ k) : DefOk P w K mg base x k n m := by
  obtain ⟨f, fd, ps, F, h2⟩ := h
  exact ⟨f, fd, ps, F.mono hk, h2⟩
/-- how arguments bind -/
def BindN (x : Str) (st : Stmt) (ps : List Str) : Prop := ∀ (kV doc pm : Value) (an : Option Addr) (cdv ct : Value) (us : List Value), us.length = ps.length → bindArgs (PySem.W.fnOf x x (defArgs st) (defBody st) (defScope st) .none kV doc pm an cdv ct) ⟨us, []⟩ = pure (ps.zip us)
abbrev cxD (P : Program) (w : World) (K : PySem.W.Frag) (mg : Str → Option Value) (base : Heap) (N : List Str) (x : Str) (st : Stmt) (f : Addr) (cdv : Value) (A : Around) (outer : List Env) (s : Shared) (H : Hp) (E : XK) : Cx := cxOf (L2.CX P w) P w K mg base N x (defScope st) f cdv A outer s H E
theorem def_fn {P : Program} {w : World} {K : PySem.W.Frag} {mg : Str → Option Value} {base : Heap} {x : Str} {st : Stmt} {N ps : List Str} {k n z : Nat} {m : MS} (Sc : FnScope N ps (defScope st)) (hn : ps.length = n) (hz : N.length = z)
    (hm : ∀ (f : Addr) (cdv : Value) (A : Around) (outer : List Env) (s : Shared) (H : Hp) (E : XK), Room k (cxD P w K mg base N x st f cdv A outer s H E).A → N.Nodup → Takes (cxD P w K mg base N x st f cdv A outer s H E) (wOut E) →
      PassesOwn (model P w) (cxD P w K mg base N x st f cdv A outer s H E).A (cxD P w K mg base N x st f cdv A outer s H E).env (cxD P w K mg base N x st f cdv A outer s H E).xe →
      PSs (cxD P w K mg base N x st f cdv A outer s H E) (defBody st) (LS (cxD P w K mg base N x st f cdv A outer s H E) (wOut E) m)) :
    ∀ f fd, FunD K x x (defArgs st) (defBody st) (defScope st) [] [] f fd → FnOk P w K mg base (L2.CX P w) (k + 1) f fd ps (spM ⟨K, mg⟩ n (fnM n z m)) :=
  fun f fd F => fn_ok F Sc hn hz fun cdv A outer s H E hr => hm f cdv A outer s H E hr Sc.nd (takes_of rfl rfl rfl rfl) (passes_of rfl)
theorem def_mk {P : Program} {w : World} {K : PySem.W.Frag} {mg : Str → Option Value} {base : Heap} {x : Str} {st : Stmt} {N ps : List Str} {k n z : Nat} {m : MS} (h : DefAt K mg x st) (Sc : FnScope N ps (defScope st)) (hb : BindN x st ps) (hn : ps.length = n) (hz : N.length = z)
    (hm : ∀ (f : Addr) (cdv : Value) (A : Around) (outer : List Env) (s : Shared) (H : Hp) (E : XK), Room k (cxD P w K mg base N x st f cdv A outer s H E).A → N.Nodup → Takes (cxD P w K mg base N x st f cdv A outer s H E) (wOut E) →
      PassesOwn (model P w) (cxD P w K mg base N x st f cdv A outer s H E).A (cxD P w K mg base N x st f cdv A outer s H E).env (cxD P w K mg base N x st f cdv A outer s H E).xe →
      PSs (cxD P w K mg base N x st f cdv A outer s H E) (defBody st) (LS (cxD P w K mg base N x st f cdv A outer s H E) (wOut E) m)) :
    DefOk P w K mg base x (k + 1) n (fnM n z m) := by
  obtain ⟨f, fd, F, hf⟩ := h
  exact ⟨f, fd, ps, def_fn Sc hn hz hm f fd F, hf, F.kp, F.bindsN hb, hn⟩
/-! ### the end -/
theorem noCX {P : Program} {w : World} {l : List Env} {H : Hp} {s s' : Shared} {e : Value} (h : L2.CX P w l H s (fun _ _ _ => False) e s') : False := by
  obtain ⟨_, _, _, _, _, _, _, _, _, _, _, _, z⟩ := h
  exact z
/-- a def that lets nothing out -/
theorem fn_calm {P : Program} {w : World} {K : PySem.W.Frag} {mg : Str → Option Value} {base : Heap} {k : Nat} {f : Addr} {fd : FuncData} {ps : List Str} {sp : Sp} (F : FnOk P w K mg base (L2.CX P w) k f fd ps sp) : FnOk P w K mg base CX0 k f fd ps (fun vs H Q _ => sp vs H Q fun _ _ _ => False) := by
  refine ⟨fun vs H Q E h => F.len _ _ _ _ h, fun A outer s H args us vs Q E hr he hb hv hs => codeAny_mono (F.run A outer s H args us vs Q _ hr he hb hv hs) fun r s' hq => ?_⟩
  cases r with
  | error e => exact (noCX hq).elim
  | ok fl => cases fl <;> exact hq
theorem rps_ints {K : PySem.W.Frag} {H : Hp} : ∀ ns : List Int, RPs K H (ns.map PyData.int) (ns.map V.int)
  | [] => by simp [RPs]
  | n :: ns => by
    simp only [List.map_cons, RPs]
    exact ⟨_, _, rfl, mk_int, rps_ints ns⟩
theorem law_end {P : Program} {w : World} {K : PySem.W.Frag} {mg : Str → Option Value} {h : Heap} {st : Stmt} {fa : Addr} {k n : Nat} {x : Str} {m : List D → S → R D} (X : K.In h) (hd : DefAt K mg "law" st) (hb : BindN "law" st [x]) (hf : mg "law" = some (.ref fa))
    (F : ∀ base f fd, FunD K "law" "law" (defArgs st) (defBody st) (defScope st) [] [] f fd → FnOk P w K mg base (L2.CX P w) k f fd [x] (spM ⟨K, mg⟩ 1 m))
    (lt : ∀ ns : List Int, ns.length ≤ n → ∃ s', m [.p (.list (ns.map .int))] ⟨[], []⟩ = .ok (.p (.bool true)) s') :
    ∃ (K : PySem.W.Frag) (fd : FuncData) (sp : Sp), K.In h ∧ (∀ (s : Shared) (u : Value), BindsTo s fd ⟨[u], []⟩ [(x, u)]) ∧
        (∀ (H : Hp) (a : Addr) (ns : List Int), ns.length ≤ n → Only H → SqL K H a (ns.map V.int) → sp [.ref a] H (fun v _ => v = .bl true) fun _ _ _ => False) ∧
        ∀ base : Heap, K.In base → base.Ns mainGlobals mg → FnOk P w K mg base CX0 k fa fd [x] sp := by
  obtain ⟨f, fd, F1, hf1⟩ := hd
  rw [hf] at hf1
  cases hf1
  refine ⟨K, fd, fun vs H Q _ => spM ⟨K, mg⟩ 1 m vs H Q fun _ _ _ => False, X, fun s u => ?_, fun H a ns hl hO hS => ?_, fun base _ _ => fn_calm (F base _ _ F1)⟩
  · exact FunD.bindsA F1 hb s [u] rfl
  · refine ⟨rfl, [.p (.list (ns.map .int))], ⟨⟨[], []⟩, [], [], H⟩, rfl, ?_, .cons ?_ .nil, ?_⟩
    · refine ⟨fun i y e => by simp at e, fun i y e => by simp at e, rfl, rfl, fun i j y z b e => by simp at e, fun i j y z b e => by simp at e, fun b e => ?_⟩
      obtain ⟨i, y, e, _⟩ := e
      simp at e
    · show RP K H (.list (ns.map .int)) (.ref a)
      simp only [RP]
      refine ⟨a, _, rfl, ?_, rps_ints ns⟩
      rcases hS with (e | ⟨o, e⟩) | e
      · rcases hO a with z | ⟨o, xs, z⟩
        · rw [z] at e; cases e
        · rw [z] at e; cases e
      · exact .inl ⟨o, e⟩
      · exact .inr e
    · obtain ⟨s', e⟩ := lt ns hl
      show Post _ _ _ _ (m [.p (.list (ns.map .int))] ⟨[], []⟩) _
      rw [e]
      exact fun v c' _ _ _ q => rd_bool q
theorem ex_mem {α β : Type} [BEq α] [LawfulBEq α] : ∀ {l : List (α × β)} {x : α} {b : β}, l.lookup x = some b → (x, b) ∈ l
  | [], _, _, h => by cases h
  | (y, c) :: l, x, b, h => by
    unfold List.lookup at h
    split at h
    · rename_i e
      have := beq_iff_eq.mp e
      subst this
      cases h
      exact List.mem_cons_self
    · exact List.mem_cons_of_mem _ (ex_mem h)
/-- a mirror that says nothing -/
theorem def_zero {P : Program} {w : World} {K : PySem.W.Frag} {mg : Str → Option Value} {base : Heap} {x : Str} {st : Stmt} {ps : List Str} {k n : Nat} (h : DefAt K mg x st) (hb : BindN x st ps) (hn : ps.length = n) : DefOk P w K mg base x k n (fun _ _ => .bad) := by
  obtain ⟨f, fd, F, hf⟩ := h
  refine ⟨f, fd, ps, ⟨fun vs H Q E h => h.1.trans hn.symm, fun A outer s H args us vs Q E _ _ _ _ h => ?_⟩, hf, F.kp, F.bindsN hb, hn⟩
  obtain ⟨_, _, _, _, _, _, h⟩ := h
  exact h.elim
/-- a def that calls itself, so many times within itself -/
def recM (F : (List D → S → R D) → List D → S → R D) : Nat → List D → S → R D
  | 0 => fun _ _ => .bad
  | k + 1 => F (recM F k)
theorem def_rec {P : Program} {w : World} {K : PySem.W.Frag} {mg : Str → Option Value} {base : Heap} {x : Str} {st : Stmt} {ps : List Str} {n l : Nat} {F : (List D → S → R D) → List D → S → R D} (h : DefAt K mg x st) (hb : BindN x st ps) (hn : ps.length = n)
    (hs : ∀ k m, DefOk P w K mg base x (l + k) n m → DefOk P w K mg base x (l + k + 1) n (F m)) : ∀ k, DefOk P w K mg base x (l + k) n (recM F k)
  | 0 => def_zero h hb hn
  | k + 1 => hs k _ (def_rec h hb hn hs k)
section
variable {X : Cx} {W : WX} {pos : Pos} {ma mb : ME} {es : List Expr} {ms : MA}
/-- f(..) on the caller's small heap -/
theorem e_callS {k j n : Nat} {x : Str} {p : Pos} {e : Expr} {m : List D → S → R D} (F : DefOk X.prog X.w X.K X.mg X.base x j n m) (hr : Room k X.A) (hj : j ≤ k) (tk : Takes X W) (ha : PA X (e :: es) (LA X W ms)) (hl : ArgN ms n) (hg : Gl X x := by rfl)
    (hdb : (x == ("__debug__" : Str)) = false := by decide) (he : starEach (e :: es) X.env = (false, eval e X.env) :: starEach es X.env := by rfl) (hpl : (backTo pos (starEach es X.env)).any (·.1) = false := by rfl) :
    PE X (.Call (.Name x p) (e :: es) [] pos) (LE X W (mCall m ms)) := by
  obtain ⟨f, fd, ps, F1, F2, F3, F4, F5⟩ := F
  exact e_call F1 (hr.mono hj) hg F2 F3 F4 F5 tk ha hl hdb he hpl
/-- f(..) on a small heap of its own -/
theorem e_callA {k j n : Nat} {x : Str} {p : Pos} {e : Expr} {m : List D → S → R D} (F : DefOk X.prog X.w X.K X.mg X.base x j n m) (hr : Room k X.A) (hj : j ≤ k) (tk : Takes X W) (ha : PA X (e :: es) (LA X W ms)) (hl : ArgN ms n) (hg : Gl X x := by rfl)
    (hdb : (x == ("__debug__" : Str)) = false := by decide) (he : starEach (e :: es) X.env = (false, eval e X.env) :: starEach es X.env := by rfl) (hpl : (backTo pos (starEach es X.env)).any (·.1) = false := by rfl) :
    PE X (.Call (.Name x p) (e :: es) [] pos) (LE X W (mCall (pureRun m) ms)) := by
  obtain ⟨f, fd, ps, F1, F2, F3, F4, F5⟩ := F
  exact e_callP F1 (hr.mono hj) hg F2 F3 F4 tk ha hl hdb he hpl

/-! ### the well -/
def onlyD : List D → Bool
  | [] => true
  | .p _ :: ds => onlyD ds
  | _ => false
/-- a def that draws from the well: it runs on the well's heap alone; the first argument is the well -/
def drawRun (f : List D → S → R D) : List D → S → R D := fun ds s => match ds with
  | .well i :: r => if onlyD r then (match f (.ref i :: r) ⟨s.w, []⟩ with
    | .ok (.p x) ⟨g, []⟩ => .ok (.p x) ⟨s.g, g⟩
    | _ => .bad) else .bad
  | _ => .bad
/-- a def that makes the well -/
def wellRun (f : List D → S → R D) : List D → S → R D := fun ds s => if onlyD ds then (match s.w with
  | [] => (match f ds ⟨[], []⟩ with
    | .ok (.ref i) ⟨g, []⟩ => .ok (.well i) ⟨s.g, g⟩
    | _ => .bad)
  | _ => .bad) else .bad
def Cf.inW (c : Cf) : Cf := ⟨⟨c.s.w, []⟩, c.o, [], c.H⟩
def Cf.outW (c c2 : Cf) : Cf := ⟨⟨c.s.g, c2.s.g⟩, c.m, c2.m, c2.H⟩
theorem Rel.inW {Y : Md} {c : Cf} (r : Rel Y c) : Rel Y c.inW := by
  refine ⟨fun i x h => r.w i x h, fun i x h => by simp [Cf.inW] at h, r.wl, rfl, r.wi, fun i j x y a h => by simp [Cf.inW] at h, fun a _ h => ?_⟩
  obtain ⟨i, x, h, _⟩ := h
  simp [Cf.inW] at h
theorem own_inW {c : Cf} {a : Addr} (h : c.inW.Own a) : Alive c.s.w c.o a := by
  rcases h with h | ⟨i, x, h, _⟩
  · exact h
  · simp [Cf.inW] at h
theorem Rel.outW {Y : Md} {c c2 : Cf} (r : Rel Y c) (st : Stp c.inW c2) (r2 : Rel Y c2) (hw : c2.s.w = []) : Rel Y (c.outW c2) := by
  have stay : Stay c.H c2.H := st.stay r.inW
  have ho : c2.o = [] := List.length_eq_zero_iff.mp (by rw [r2.wl, hw]; rfl)
  have keep : ∀ a, Alive c.s.g c.m a → ∀ u, c.H a = some u → c2.H a = some u := fun a ha u h => st.ext a u h fun z => r.gw a ha (own_inW z)
  refine ⟨fun i x h => ?_, fun i x h => ?_, r.gl, r2.gl, r.gi, r2.gi, fun a h1 h2 => ?_⟩
  · obtain ⟨a, e, q⟩ := r.g i x h
    refine ⟨a, e, q.up (fun _ _ z => z) st.m stay (fun u hu => keep a ⟨i, x, h, e⟩ u hu) (fun d hd => st.ext d _ hd fun z => ?_)⟩
    exact r.inW.notOwn hd (fun z => z) z
  · have := r2.g i x h
    rw [ho] at this
    exact this
  · rcases st.own a (.inl h2) with z | z
    · exact r.gw a h1 (own_inW z)
    · obtain ⟨u, hu, _⟩ := r.own (.inl h1)
      have z' : c.H a = none := z
      rw [hu] at z'; cases z'
theorem Stp.outW {Y : Md} {c c2 : Cf} (r : Rel Y c) (st : Stp c.inW c2) : Stp c (c.outW c2) where
  m := fun _ _ h => h
  o := st.m
  own := fun a h => by
    rcases h with h | h
    · exact .inl (.inl h)
    · rcases st.own a (.inl h) with z | z
      · exact .inl (.inr (own_inW z))
      · exact .inr z
  ext := fun a u h n => st.ext a u h fun z => n (.inr (own_inW z))
theorem onlyD_any {Y : Md} {m m' o o' : List Addr} {H : Hp} : ∀ {ds : List D} {vs : List V}, onlyD ds = true → RDs Y m o H ds vs → RDs Y m' o' H ds vs
  | [], _, _, .nil => .nil
  | .p x :: ds, _, e, .cons q t => .cons q (onlyD_any (by simpa [onlyD] using e) t)
  | .fn x :: ds, _, e, .cons q t => by simp [onlyD] at e
  | .well i :: ds, _, e, .cons q t => by simp [onlyD] at e
  | .ref i :: ds, _, e, .cons q t => by simp [onlyD] at e
theorem drawRun_ok {Y : Md} {n : Nat} {m : List D → S → R D} {vs : List V} {c : Cf} {ds : List D} {Q : VK} {E : XK} (hl : vs.length = n) (r : Rel Y c) (q : rds Y c ds vs) (h : Post Y (rd Y) (fun cv dx H' => E cv dx H') c (drawRun m ds c.s) Q) : spM Y n m vs c.H Q E := by
  unfold drawRun at h
  split at h
  · rename_i i rest
    split at h
    · rename_i ho
      have q' : RDs Y c.inW.m c.inW.o c.inW.H (.ref i :: rest) vs := by
        cases q with
        | cons q t => exact .cons q (onlyD_any ho t)
      refine ⟨hl, .ref i :: rest, c.inW, rfl, r.inW, q', ?_⟩
      show Post Y (rd Y) _ c.inW (m (.ref i :: rest) ⟨c.s.w, []⟩) Q
      cases hm : m (.ref i :: rest) ⟨c.s.w, []⟩ with
      | ok d s' =>
        obtain ⟨g', w'⟩ := s'
        rw [hm] at h
        cases d with
        | p x =>
          cases w' with
          | nil =>
            intro v c2 e2 s2 r2 q2
            refine h v (c.outW c2) ?_ (s2.outW r) (r.outW s2 r2 (by rw [e2])) q2
            show (⟨c.s.g, c2.s.g⟩ : S) = _
            rw [e2]
          | cons _ _ => exact h.elim
        | ref i => exact h.elim
        | well i => exact h.elim
        | fn x => exact h.elim
      | ex x fs s' => rw [hm] at h; exact h.elim
      | bad => rw [hm] at h; exact h.elim
    · exact h.elim
  · exact h.elim
theorem wellRun_ok {Y : Md} {n : Nat} {m : List D → S → R D} {vs : List V} {c : Cf} {ds : List D} {Q : VK} {E : XK} (hl : vs.length = n) (r : Rel Y c) (q : rds Y c ds vs) (h : Post Y (rd Y) (fun cv dx H' => E cv dx H') c (wellRun m ds c.s) Q) : spM Y n m vs c.H Q E := by
  unfold wellRun at h
  split at h
  · rename_i ho
    split at h
    · rename_i hw
      refine ⟨hl, ds, c.inW, rfl, r.inW, onlyD_any ho q, ?_⟩
      show Post Y (rd Y) _ c.inW (m ds ⟨c.s.w, []⟩) Q
      rw [hw]
      cases hm : m ds ⟨[], []⟩ with
      | ok d s' =>
        obtain ⟨g', w'⟩ := s'
        rw [hm] at h
        cases d with
        | p x => exact h.elim
        | ref i =>
          cases w' with
          | nil =>
            intro v c2 e2 s2 r2 q2
            refine h v (c.outW c2) ?_ (s2.outW r) (r.outW s2 r2 (by rw [e2])) q2
            show (⟨c.s.g, c2.s.g⟩ : S) = _
            rw [e2]
          | cons _ _ => exact h.elim
        | well i => exact h.elim
        | fn x => exact h.elim
      | ex x fs s' => rw [hm] at h; exact h.elim
      | bad => rw [hm] at h; exact h.elim
    · exact h.elim
  · exact h.elim
/-- a def's promise by another run of its mirror -/
theorem DefOk.run {P : Program} {w : World} {K : PySem.W.Frag} {mg : Str → Option Value} {base : Heap} {x : Str} {k n : Nat} {m m' : List D → S → R D} (h : DefOk P w K mg base x k n m)
    (i : ∀ (Y : Md) (vs : List V) (c : Cf) (ds : List D) (Q : VK) (E : XK), vs.length = n → Rel Y c → rds Y c ds vs → Post Y (rd Y) (fun cv dx H' => E cv dx H') c (m' ds c.s) Q → spM Y n m vs c.H Q E) : DefOk P w K mg base x k n m' := by
  obtain ⟨f, fd, ps, F, h2⟩ := h
  refine ⟨f, fd, ps, F.imp fun vs H Q E hp => ?_, h2⟩
  obtain ⟨hl, ds, c, e, r, q, hp⟩ := hp
  subst e
  exact i _ vs c ds Q E hl r q hp
theorem DefOk.alone {P : Program} {w : World} {K : PySem.W.Frag} {mg : Str → Option Value} {base : Heap} {x : Str} {k n : Nat} {m : List D → S → R D} (h : DefOk P w K mg base x k n m) : DefOk P w K mg base x k n (pureRun m) := h.run fun _ _ _ _ _ _ hl r q hp => pureRun_ok hl r q hp
theorem DefOk.draw {P : Program} {w : World} {K : PySem.W.Frag} {mg : Str → Option Value} {base : Heap} {x : Str} {k n : Nat} {m : List D → S → R D} (h : DefOk P w K mg base x k n m) : DefOk P w K mg base x k n (drawRun m) := h.run fun _ _ _ _ _ _ hl r q hp => drawRun_ok hl r q hp
theorem DefOk.well {P : Program} {w : World} {K : PySem.W.Frag} {mg : Str → Option Value} {base : Heap} {x : Str} {k n : Nat} {m : List D → S → R D} (h : DefOk P w K mg base x k n m) : DefOk P w K mg base x k n (wellRun m) := h.run fun _ _ _ _ _ _ hl r q hp => wellRun_ok hl r q hp
/-- a mirror that says the same, or nothing -/
theorem DefOk.eqv {P : Program} {w : World} {K : PySem.W.Frag} {mg : Str → Option Value} {base : Heap} {x : Str} {k n : Nat} {m m' : List D → S → R D} (h : DefOk P w K mg base x k n m) (e : ∀ ds s, m' ds s = m ds s ∨ m' ds s = .bad) : DefOk P w K mg base x k n m' :=
  h.run fun _ vs c ds Q E hl r q hp => ⟨hl, ds, c, rfl, r, q, by
    rcases e ds c.s with z | z
    · rw [z] at hp; exact hp
    · rw [z] at hp; exact hp.elim⟩
end

/-! ### the names of built-ins; more forms -/
theorem bt_len : bootBuiltins "len" = some (.builtin "len") := by decide +kernel
theorem bt_all : bootBuiltins "all" = some (.builtin "all") := by decide +kernel
theorem bt_any : bootBuiltins "any" = some (.builtin "any") := by decide +kernel
theorem bt_sum : bootBuiltins "sum" = some (.builtin "sum") := by decide +kernel
theorem bt_tuple : bootBuiltins "tuple" = some (.type "tuple") := by decide +kernel
theorem bt_list : bootBuiltins "list" = some (.type "list") := by decide +kernel
theorem bt_int : bootBuiltins "int" = some (.type "int") := by decide +kernel
theorem bt_bool : bootBuiltins "bool" = some (.type "bool") := by decide +kernel
theorem bt_str : bootBuiltins "str" = some (.type "str") := by decide +kernel
theorem bt_dict : bootBuiltins "dict" = some (.type "dict") := by decide +kernel
abbrev iLt := iCmp fun i j => decide (i < j)
abbrev iLe := iCmp fun i j => decide (i ≤ j)
abbrev iGt := iCmp fun i j => decide (j < i)
abbrev iGe := iCmp fun i j => decide (j ≤ i)
section
variable {X : Cx} {W : WX} {pos : Pos} {a b c : Expr} {ma mb mc : ME}
theorem o_ltP : Op2 X (compareOp .Lt) (pp2 iLt) := o_lt
theorem o_leP : Op2 X (compareOp .LtE) (pp2 iLe) := o_le
theorem o_gtP : Op2 X (compareOp .Gt) (pp2 iGt) := o_gt
theorem o_geP : Op2 X (compareOp .GtE) (pp2 iGe) := o_ge
/-- a op b op' c -/
def mChain (f f' : D → D → S → R D) (ma mb mc : ME) : ME := fun env s => (ma env s).bind fun d1 s1 => (mb env s1).bind fun d2 s2 => (f d1 d2 s2).bind fun z s3 => (asB z s3).bind fun k s4 => if k then (mc env s4).bind fun d3 s5 => f' d2 d3 s5 else .ok (.p (.bool false)) s4
theorem asB_then {γ δ : Type} {Y : Md} {RC : Cf → γ → δ → Prop} {WE : Value → Option Addr → Hp → Prop} {c : Cf} {d : D} {v : V} {f : Bool → S → R γ} {Q : δ → Hp → Prop} (q : rd Y c d v) (h : Post Y RC WE c ((asB d c.s).bind f) Q) : ∃ k, v = .bl k ∧ Post Y RC WE c (f k c.s) Q := by
  unfold asB at h
  split at h
  · exact ⟨_, rd_bool q, h⟩
  · exact h.elim
theorem tChain_of {r r' : R2} {f f' : D → D → S → R D} (hl : Link2 (yx X) f r) (hl' : Link2 (yx X) f' r') {σ : L2.St} {H : Hp} {Q : VK} (h : LE X W (mChain f f' ma mb mc) σ H Q) : tChain r r' (LE X W ma) (LE X W mb) (LE X W mc) σ H Q := by
  obtain ⟨env, c, e, re, rr, h⟩ := h
  refine ⟨env, c, e, re, rr, h.bind fun d1 v1 c1 s1 r1 q1 h1 => ⟨env, c1, rfl, re.step rr s1, r1, h1.bind fun d2 v2 c2 s2 r2 q2 h2 => ?_⟩⟩
  refine hl (fun cv dx H' => W cv dx σ H') c2 d1 d2 v1 v2 _ r2 (q1.step r1 s2) q2 (h2.bind fun z vz c3 s3 r3 q3 h3 => ?_)
  obtain ⟨k, ek, h4⟩ := asB_then q3 h3
  refine ⟨k, ek, ?_⟩
  cases k with
  | true => exact iteT ⟨env, c3, rfl, ((re.step rr s1).step r1 s2).step r2 s3, r3, h4.bind fun d3 v3 c4 s4 r4 q4 h5 => hl' _ c4 d2 d3 v2 v3 Q r4 ((q2.step r2 s3).step r3 s4) q4 h5⟩
  | false => exact iteF (h4.p r3 mk_bool)
theorem e_chain {op op' : CmpOp} {f f' : D → D → S → R D} (ho : Op2 X (compareOp op) f) (ho' : Op2 X (compareOp op') f') (ha : PE X a (LE X W ma)) (hb : PE X b (LE X W mb)) (hc : PE X c (LE X W mc)) (hm : lastMarks [op, op'] [b, c] = false := by with_unfolding_all rfl) :
    PE X (.Compare a [op, op'] [b, c] pos) (LE X W (mChain f f' ma mb mc)) := by
  obtain ⟨r, hr, hl⟩ := ho
  obtain ⟨r', hr', hl'⟩ := ho'
  exact (pe_chain hr hr' ha hb hc hm).imp fun σ H Q h => tChain_of hl hl' h
theorem t_chain {op op' : CmpOp} {f f' : D → D → S → R D} (ho : Op2 X (compareOp op) f) (ho' : Op2 X (compareOp op') f') (ha : PE X a (LE X W ma)) (hb : PE X b (LE X W mb)) (hc : PE X c (LE X W mc)) (hm : lastMarks [op, op'] [b, c] = false := by with_unfolding_all rfl) :
    PT X (.Compare a [op, op'] [b, c] pos) (LT X W (mTest (mChain f f' ma mb mc))) := by
  obtain ⟨r, hr, hl⟩ := ho
  obtain ⟨r', hr', hl'⟩ := ho'
  refine (pt_chain hr hr' ha hb hc hm).imp fun σ H Q h => ?_
  obtain ⟨env, c, e, re, rr, h⟩ := h
  exact tChain_of hl hl' ⟨env, c, e, re, rr, h.bind fun d v c1 s1 r1 q1 h1 => asB_ok r1 q1 h1⟩
/-- a constant of the module, an int or a text -/
theorem e_gint {x : Str} {i : Int} (h : ∃ t, X.mg x = some (.int i t)) (hg : Gl X x := by rfl) (hd : (x == ("__debug__" : Str)) = false := by decide) : PE X (.Name x pos) (LE X W (mK (.int i))) := by
  obtain ⟨t, h⟩ := h
  exact e_glob (v := .int i) hg h ⟨t, rfl⟩ (fun _ => mk_int) hd
theorem e_gstr {x : Str} {i : Str} (h : ∃ t, X.mg x = some (.str i t)) (hg : Gl X x := by rfl) (hd : (x == ("__debug__" : Str)) = false := by decide) : PE X (.Name x pos) (LE X W (mK (.str i))) := by
  obtain ⟨t, h⟩ := h
  exact e_glob (v := .str i) hg h ⟨t, rfl⟩ (fun _ => mk_str) hd
theorem Quiet1.tup {n : Nat} {gs : List D → Env1 → S → R Env1} (h : QuietG gs) : Quiet1 (gTup n gs) := fun d env s x fs s' e => by
  unfold gTup at e
  split at e
  · split at e
    · exact h _ _ _ _ _ _ e
    · cases e
  · cases e
end
theorem PSs.dummy : True := trivial
theorem _root_.L2.PS.fz {X : Cx} {st : Stmt} {t : TS} (h : PS X st t) : PS X st (fun D σ H => t { D with nx := fun σ' H' => FZ (D.nx σ') H' } σ H) :=
  ⟨fun pins s σ H D I q => thn (h.run pins s σ H _ I q) fun f s1 hs => by
    cases f with
    | next => obtain ⟨σ', H', I', z⟩ := hs; obtain ⟨H2, I2, q2⟩ := fz_run z I'; exact ⟨σ', H2, I2, q2⟩
    | brk => exact hs
    | cont => exact hs
    | ret v => exact hs⟩
section
variable {X : Cx} {W : WX} {elt tg iter : Expr} {ifs : List Expr} {scope : Scope} {own : List (Str × Nat)} {mi : MI} {t : TG} {g : MG} {tt : MT} {me : ME} {pos : Pos}
/-- x = [..] on one line, x a local: the list stands for good -/
theorem s_lcF {i : Nat} {y : Str} {py spos : Pos} (hc : X.calm = true) (hN : X.N.Nodup) (hy : X.N[i]? = some y) (hyl : X.env.scope.names.lookup y = some .local)
    (hsw : swapsWith (.ListComp elt [⟨tg, iter, ifs, 0⟩] scope pos) (some (.Name y py)) spos.line X.env = pure true) (hi : PI X tg iter (LI X W mi)) (ok : BlkOk X.N X.env.scope scope own) (tk : TgOk (yx X) t g (own.map (·.2)))
    (hg : ∀ (s : Shared) (H : Hp) (C : Addr) (cl : List (Str × Addr)) (fp : List Addr), PG (X.blk s H scope (compEnvC scope cl C X.env) fp) tg t)
    (ht : ∀ (s : Shared) (H : Hp) (C : Addr) (cl : List (Str × Addr)) (fp : List Addr), PTs (X.blk s H scope (compEnvC scope cl C X.env) fp) ifs (LT (X.blk s H scope (compEnvC scope cl C X.env) fp) wNo tt))
    (he : ∀ (s : Shared) (H : Hp) (C : Addr) (cl : List (Str × Addr)) (fp : List Addr), PE (X.blk s H scope (compEnvC scope cl C X.env) fp) elt (LE (X.blk s H scope (compEnvC scope cl C X.env) fp) wNo me)) (hs : ∀ x, foldedSetIterable iter X.env x = pure x := by intro _; rfl) :
    PS X (.Assign [.Name y py] (.ListComp elt [⟨tg, iter, ifs, 0⟩] scope pos) spos) (LS X W (sSet i (mLc mi (own.map (·.2)) g tt me kFrz))) :=
  ((ps_setLc hc hN hy hyl hsw hi ok hg ht he hs).fz).imp fun D σ H ⟨env, c, e, re, r, h⟩ =>
    tLc_frz (wi := LI X W mi) (Q := fun v H' => D.nx (σ.set i (some v)) H') tk ⟨env, c, e, re, r, h.bind (RA := rd (yx X)) re r fun d v c1 s1 r1 q1 h1 => h1 _ c1 rfl Stp.refl r1 ((re.step r s1).set i q1)⟩
end

/-! ### exception classes as facts -/
/-- an own exception class over ValueError without an __init__ of its own -/
def XcAt (K : PySem.W.Frag) (mg : Str → Option Value) (x : Str) : Prop := ∃ C, mg x = some (.ref C) ∧ PySem.W.excIn K C [.type "ValueError", .type "Exception", .type "BaseException", .type "object"] "ValueError.__new__" = true ∧ PySem.W.keepIn K (.ref C) = true ∧ PySem.W.subIn K (.ref C) (.type "BaseException") = some true ∧ PySem.W.typeIn K (.ref C) = some (.type "type")
section
variable {X : Cx} {W : WX} {pos : Pos}
theorem s_raiseX {x : Str} {p pos' : Pos} (h : XcAt X.K X.mg x) (tk : Takes X W) (hc : X.calm = true := by rfl) (hg : Gl X x := by rfl) (hdb : (x == ("__debug__" : Str)) = false := by decide) : PS X (.Raise (some (.Call (.Name x p) [] [] pos)) none pos') (LS X W (sRaise x)) := by
  obtain ⟨C, gC, q, kC, sub, ty⟩ := h
  exact s_raise PySem.F.excBase_ValueError q gC kC (raises_own sub ty) hc tk hg hdb
/-- which clause takes it, where that is known -/
def hdlX (em : Str → Str → Option Bool) (x : Str) (fs : List (Str × D)) (env : Env1) (s : S) : List (Str × MS) → RS
  | [] => .ex x fs env s
  | (c, m) :: r => match em x c with
    | some true => (match m env s with
      | .ex _ _ _ _ => .bad
      | z => z)
    | some false => hdlX em x fs env s r
    | none => .bad
def sTryX (em : Str → Str → Option Bool) (mb : MS) (hs : List (Str × MS)) : MS := fun env s => match mb env s with
  | .ex x fs env' s' => hdlX em x fs env' s' hs
  | z => z
/-- what is known of an except clause's class -/
def ExAt (K : PySem.W.Frag) (mg : Str → Option Value) (em : Str → Str → Option Bool) (y : Str) : Prop := ∃ C', mg y = some (.ref C') ∧ ∀ x C b, mg x = some (.ref C) → em x y = some b → PySem.W.exmOne K (.ref C) (.ref C') = some b
inductive HdX (X : Cx) (em : Str → Str → Option Bool) : List ExceptHandler → List (Str × MS) → Prop
  | nil : HdX X em [] []
  | cons {y : Str} {m : MS} {b₀ : Stmt} {suite : List Stmt} {np pos' : Pos} {hds : List ExceptHandler} {l : List (Str × MS)} (hc : ExAt X.K X.mg em y) (hg : Gl X y) (hd : (y == ("__debug__" : Str)) = false)
      (hsu : ∀ (a : Addr) (pn : List (Addr × Obj)), PSs (X.suite a pn) (b₀ :: suite) (LS X wNo m)) (r : HdX X em hds l) : HdX X em (.ExceptHandler (some (.Name y np)) none (b₀ :: suite) pos' :: hds) ((y, m) :: l)
theorem HdX.ok {em : Str → Str → Option Bool} {hds : List ExceptHandler} {l : List (Str × MS)} (h : HdX X em hds l) : ∃ cs : List (Str × Value × MS), cs.map (fun p => (p.1, p.2.2)) = l ∧ HdsOk X hds (cs.map fun p => (p.2.1, fun _ _ _ => LS X wNo p.2.2)) ∧
    ∀ x C b, X.mg x = some (.ref C) → ∀ p ∈ cs, em x p.1 = some b → PySem.W.exmOne X.K (.ref C) p.2.1 = some b := by
  induction h with
  | nil => exact ⟨[], rfl, .nil, fun _ _ _ _ p hp => nomatch hp⟩
  | @cons y m b₀ suite np pos' hds l hc hg hd hsu r ih =>
    obtain ⟨C', h1, h2⟩ := hc
    obtain ⟨cs, e, k1, k2⟩ := ih
    refine ⟨(y, .ref C', m) :: cs, by simp [e], .cons ⟨hg, hd, .inl h1⟩ (fun a oe cls d pn hz hf => hsu a _) k1, fun x C b hx p hp hb => ?_⟩
    rcases List.mem_cons.mp hp with e | hp
    · subst e; exact h2 x C b hx hb
    · exact k2 x C b hx p hp hb
theorem s_tryX {body : List Stmt} {h₀ : ExceptHandler} {hds : List ExceptHandler} {l : List (Str × MS)} {mb : MS} {em : Str → Str → Option Bool} (tk : Takes X W)
    (hb : ∀ (W' : WX) (pn : List (Addr × Obj)) (xe : Value → Shared → Prop), Takes (X.tr pn xe) W' → PassesOwn (model X.prog X.w) X.A X.env xe → PSs (X.tr pn xe) body (LS X W' mb))
    (hh : HdX X em (h₀ :: hds) l) (hs : X.stack = X.env :: X.outer := by rfl) (hf : X.env.frame = some X.env.locals := by rfl) : PS X (.Try body (h₀ :: hds) [] [] pos) (LS X W (sTryX em mb l)) := by
  obtain ⟨cs, el, k1, k2⟩ := hh.ok
  subst el
  refine (ps_try_many (tb := fun W' => LS X W' mb) hs hf tk hb k1).imp fun D σ H ⟨env, c, e, re, rr, h⟩ => ⟨env, c, e, re, rr, ?_⟩
  unfold sTryX at h
  cases hm : mb env c.s with
  | ex x fs env' s' =>
    rw [hm] at h
    intro cv dx σ' c' e' st' r' xr re'
    have h' := PostS.step h st'
    simp only at h'
    obtain ⟨C, e1, e2, e3⟩ := id xr
    subst e1
    have key : ∀ l : List (Str × Value × MS), (∀ p ∈ l, ∀ b, em x p.1 = some b → PySem.W.exmOne X.K (.ref C) p.2.1 = some b) → PostS (yx X) W D c' (hdlX em x fs env' s' (l.map fun p => (p.1, p.2.2))) →
        wMany X.K W D (l.map fun p => (p.2.1, fun _ _ _ => LS X wNo p.2.2)) (.ref C) dx σ' c'.H := by
      intro l
      induction l with
      | nil => exact fun _ z => z (.ref C) dx σ' c' e' Stp.refl r' xr re'
      | cons p l ih =>
        intro hp z
        obtain ⟨y, cc, mm⟩ := p
        simp only [List.map_cons, hdlX] at z
        cases hy : em x y with
        | none => rw [hy] at z; exact z.elim
        | some b =>
          rw [hy] at z
          refine ⟨b, hp _ List.mem_cons_self b hy, fun hb' a na => ?_, fun hb' => ?_⟩
          · subst hb'
            simp only at z
            refine ⟨env', c', rfl, re', r', ?_⟩
            rw [← e'] at z
            show PostS (yx X) wNo D c' (mm env' c'.s)
            cases hmm : mm env' c'.s with
            | ex _ _ _ _ => rw [hmm] at z; exact z.elim
            | nx _ _ => rw [hmm] at z; exact z
            | ret _ _ => rw [hmm] at z; exact z
            | brk _ _ => rw [hmm] at z; exact z
            | cont _ _ => rw [hmm] at z; exact z
            | bad => rw [hmm] at z; exact z.elim
          · subst hb'
            simp only at z
            exact ih (fun q hq => hp q (List.mem_cons_of_mem _ hq)) z
    exact key cs (fun p hp b => k2 x C b e2 p hp) h'
  | nx env' s' => rw [hm] at h; exact h
  | ret d s' => rw [hm] at h; exact h
  | brk env' s' => rw [hm] at h; exact h
  | cont env' s' => rw [hm] at h; exact h
  | bad => rw [hm] at h; exact h
end
end Mp

/-! MP, part K: what mirrors come to, in plain Lean. -/
namespace Mp
open PySem PySem.Spec PyProof.Rows L2

/-- r comes to a value and a state with Q -/
def Gets {α : Type} (r : R α) (Q : α → S → Prop) : Prop := ∃ d s, r = .ok d s ∧ Q d s
theorem Gets.mono {α : Type} {r : R α} {Q Q' : α → S → Prop} (h : Gets r Q) (k : ∀ d s, Q d s → Q' d s) : Gets r Q' := let ⟨d, s, e, q⟩ := h; ⟨d, s, e, k d s q⟩
theorem Gets.bind {α β : Type} {r : R α} {f : α → S → R β} {Q : β → S → Prop} (h : Gets r fun d s => Gets (f d s) Q) : Gets (r.bind f) Q := by
  obtain ⟨d, s, e, d', s', e', q⟩ := h
  exact ⟨d', s', by rw [e]; exact e', q⟩
theorem Gets.of {α : Type} {d : α} {s : S} {Q : α → S → Prop} (h : Q d s) : Gets (.ok d s) Q := ⟨d, s, rfl, h⟩

/-! ### loops and list comprehensions -/
theorem lc_each {ok : S → Prop} {i : Nat} {me : ME} {env0 : Env1} {I : S → Prop} {F : D → D → Prop} (ho : ∀ s, I s → ok s) : ∀ {xs : List D}, (∀ x ∈ xs, ∀ s, I s → Gets (me (env0.set i (some x)) s) fun d s' => F x d ∧ I s') →
    ∀ s, I s → Gets (lcL ok (gSet i) mYes me env0 xs s) fun ds s' => Paired F xs ds ∧ I s'
  | [], _, s, hi => by
    unfold lcL
    rw [if_pos (ho s hi)]
    exact .of ⟨.nil, hi⟩
  | x :: xs, h, s, hi => by
    unfold lcL
    rw [if_pos (ho s hi)]
    obtain ⟨d, s1, e, hd, h1⟩ := h x List.mem_cons_self s hi
    simp only [gSet, noex, R.bind, mYes, if_true, e]
    obtain ⟨ds, s2, e2, hds, h2⟩ := lc_each ho (fun y hy => h y (List.mem_cons_of_mem _ hy)) s1 h1
    rw [e2]
    exact .of ⟨.cons hd hds, h2⟩
theorem lc_map {α : Type} {ok : S → Prop} {i : Nat} {me : ME} {env0 : Env1} {s : S} (ho : ok s) {a f : α → D} : ∀ {xs : List α}, (∀ x ∈ xs, me (env0.set i (some (a x))) s = .ok (f x) s) →
    lcL ok (gSet i) mYes me env0 (xs.map a) s = .ok (xs.map f) s
  | [], _ => by
    simp only [List.map_nil]
    unfold lcL
    rw [if_pos ho]
  | x :: xs, h => by
    simp only [List.map_cons]
    unfold lcL
    rw [if_pos ho]
    simp only [gSet, noex, R.bind, mYes, if_true, h x List.mem_cons_self]
    rw [lc_map ho fun y hy => h y (List.mem_cons_of_mem _ hy)]
theorem lc_filter {α : Type} {ok : S → Prop} {i : Nat} {tt : MT} {me : ME} {env0 : Env1} {s : S} (ho : ok s) {a f : α → D} {p : α → Bool} : ∀ {xs : List α}, (∀ x ∈ xs, tt (env0.set i (some (a x))) s = .ok (p x) s) → (∀ x ∈ xs, p x = true → me (env0.set i (some (a x))) s = .ok (f x) s) →
    lcL ok (gSet i) tt me env0 (xs.map a) s = .ok ((xs.filter p).map f) s
  | [], _, _ => by
    simp only [List.map_nil, List.filter_nil]
    unfold lcL
    rw [if_pos ho]
  | x :: xs, h, k => by
    simp only [List.map_cons]
    unfold lcL
    rw [if_pos ho]
    simp only [gSet, noex, R.bind, h x List.mem_cons_self]
    have ih := lc_filter (me := me) (f := f) ho (fun y hy => h y (List.mem_cons_of_mem _ hy)) fun y hy => k y (List.mem_cons_of_mem _ hy)
    cases hp : p x with
    | true =>
      simp only [if_true, k x List.mem_cons_self hp]
      rw [ih]
      simp [hp]
    | false =>
      simp only [Bool.false_eq_true, if_false]
      rw [ih]
      simp [hp]
/-- a loop's turns keep J; R: what may be handed back -/
def RSw (r : RS) (N : Env1 → S → Prop) (Q : D → S → Prop) : Prop := match r with
  | .nx e s => N e s
  | .ret d s => Q d s
  | _ => False
theorem RSw.mono {r : RS} {N N' : Env1 → S → Prop} {Q Q' : D → S → Prop} (h : RSw r N Q) (k : ∀ e s, N e s → N' e s) (k' : ∀ d s, Q d s → Q' d s) : RSw r N' Q' := by
  cases r <;> first | exact h.elim | exact k _ _ h | exact k' _ _ h
theorem RSw.seq {r : RS} {m : MS} {N : Env1 → S → Prop} {Q : D → S → Prop} (h : RSw r (fun e s => RSw (m e s) N Q) Q) : RSw (r.seq m) N Q := by
  cases r <;> first | exact h.elim | exact h
theorem RSw.thn {α : Type} {r : R α} {env : Env1} {f : α → S → RS} {N : Env1 → S → Prop} {Q : D → S → Prop} (h : Gets r fun d s => RSw (f d s) N Q) : RSw (r.thn env f) N Q := by
  obtain ⟨d, s, e, q⟩ := h
  rw [e]
  exact q
/-- one turn of a loop: on, on, out, handed back -/
def RSt (r : RS) (J N : Env1 → S → Prop) (Q : D → S → Prop) : Prop := match r with
  | .nx e s => J e s
  | .cont e s => J e s
  | .brk e s => N e s
  | .ret d s => Q d s
  | _ => False
theorem for_gets {ok : S → Prop} {g : MG} {body : MS} {N : Env1 → S → Prop} {Q : D → S → Prop} {J : List D → Env1 → S → Prop} (ho : ∀ xs e s, J xs e s → ok s)
    (hb : ∀ x xs e s, J (x :: xs) e s → Gets (g x e s) fun e1 s1 => RSt (body e1 s1) (J xs) N Q) (he : ∀ e s, J [] e s → N e s) : ∀ xs e s, J xs e s → RSw (forL ok g body xs e s) N Q
  | [], e, s, h => by
    unfold forL
    rw [if_pos (ho _ _ _ h)]
    exact he _ _ h
  | x :: xs, e, s, h => by
    unfold forL
    rw [if_pos (ho _ _ _ h)]
    obtain ⟨e1, s1, e2, q⟩ := hb x xs e s h
    rw [e2]
    show RSw (match body e1 s1 with | .nx e s2 => _ | .cont e s2 => _ | .brk e s2 => _ | .ret d s2 => _ | .ex c fs e s2 => _ | .bad => _) N Q
    revert q
    cases body e1 s1 with
    | nx e s2 => exact fun q => for_gets ho hb he xs e s2 q
    | cont e s2 => exact fun q => for_gets ho hb he xs e s2 q
    | brk e s2 => exact fun q => q
    | ret d s2 => exact fun q => q
    | ex c fs e s2 => exact fun q => q.elim
    | bad => exact fun q => q.elim
/-- one turn, by equation -/
theorem forL_nx {ok : S → Prop} {g : MG} {body : MS} {x : D} {xs : List D} {e e1 e2 : Env1} {s s1 s2 : S} (ho : ok s) (hg : g x e s = .ok e1 s1) (hb : body e1 s1 = .nx e2 s2) : forL ok g body (x :: xs) e s = forL ok g body xs e2 s2 := by
  rw [forL, if_pos ho, hg]
  simp only [R.thn, hb]
theorem forL_ret {ok : S → Prop} {g : MG} {body : MS} {x d : D} {xs : List D} {e e1 : Env1} {s s1 s2 : S} (ho : ok s) (hg : g x e s = .ok e1 s1) (hb : body e1 s1 = .ret d s2) : forL ok g body (x :: xs) e s = .ret d s2 := by
  rw [forL, if_pos ho, hg]
  simp only [R.thn, hb]
theorem forL_nil {ok : S → Prop} {g : MG} {body : MS} {e : Env1} {s : S} (ho : ok s) : forL ok g body [] e s = .nx e s := by
  rw [forL, if_pos ho]

/-! ### by rewriting -/
section
variable {α β : Type} {Q : α → S → Prop} {N : Env1 → S → Prop} {Z : D → S → Prop}
theorem gets_congr {r r' : R α} (h : r = r') : Gets r Q = Gets r' Q := by rw [h]
theorem rsw_congr {r r' : RS} (h : r = r') : RSw r N Z = RSw r' N Z := by rw [h]
theorem gets_ok {d : α} {s : S} : Gets (.ok d s) Q ↔ Q d s := ⟨fun ⟨d', s', e, q⟩ => by cases e; exact q, fun h => .of h⟩
theorem gets_bind {r : R β} {f : β → S → R α} : Gets (r.bind f) Q ↔ Gets r fun d s => Gets (f d s) Q := by
  refine ⟨fun h => ?_, Gets.bind⟩
  obtain ⟨d, s, e, q⟩ := h
  cases r with
  | ok a s1 => exact .of ⟨d, s, e, q⟩
  | ex c fs s1 => cases e
  | bad => cases e
theorem gets_ite {c : Prop} [Decidable c] {a b : R α} : Gets (if c then a else b) Q ↔ if c then Gets a Q else Gets b Q := by
  split <;> rfl
theorem rsw_ite {c : Prop} [Decidable c] {a b : RS} : RSw (if c then a else b) N Z ↔ if c then RSw a N Z else RSw b N Z := by
  split <;> rfl
theorem rsw_seq {r : RS} {m : MS} : RSw (r.seq m) N Z ↔ RSw r (fun e s => RSw (m e s) N Z) Z := by
  cases r <;> exact Iff.rfl
theorem rsw_thn {r : R β} {env : Env1} {f : β → S → RS} : RSw (r.thn env f) N Z ↔ Gets r fun d s => RSw (f d s) N Z := by
  cases r with
  | ok a s1 => exact ⟨fun h => .of h, fun h => gets_ok.mp h⟩
  | ex c fs s1 => exact ⟨fun h => h.elim, fun ⟨_, _, e, _⟩ => by cases e⟩
  | bad => exact ⟨fun h => h.elim, fun ⟨_, _, e, _⟩ => by cases e⟩
theorem rsw_nx {e : Env1} {s : S} : RSw (.nx e s) N Z ↔ N e s := Iff.rfl
theorem rsw_ret {d : D} {s : S} : RSw (.ret d s) N Z ↔ Z d s := Iff.rfl
/-- any end of a piece: on, out of the loop, next turn, handed back -/
def RSx (r : RS) (N B C : Env1 → S → Prop) (Q : D → S → Prop) : Prop := match r with
  | .nx e s => N e s
  | .cont e s => C e s
  | .brk e s => B e s
  | .ret d s => Q d s
  | _ => False
theorem rsx_congr {r r' : RS} {N B C : Env1 → S → Prop} (h : r = r') : RSx r N B C Z = RSx r' N B C Z := by rw [h]
theorem rst_congr {r r' : RS} {J : Env1 → S → Prop} (h : r = r') : RSt r J N Z = RSt r' J N Z := by rw [h]
theorem rst_x {r : RS} {J : Env1 → S → Prop} : RSt r J N Z ↔ RSx r J N J Z := by cases r <;> exact Iff.rfl
variable {B C : Env1 → S → Prop}
theorem rsx_seq {r : RS} {m : MS} : RSx (r.seq m) N B C Z ↔ RSx r (fun e s => RSx (m e s) N B C Z) B C Z := by
  cases r <;> exact Iff.rfl
theorem rsx_nx {e : Env1} {s : S} : RSx (.nx e s) N B C Z ↔ N e s := Iff.rfl
theorem rsx_ret {d : D} {s : S} : RSx (.ret d s) N B C Z ↔ Z d s := Iff.rfl
theorem rsx_brk {e : Env1} {s : S} : RSx (.brk e s) N B C Z ↔ B e s := Iff.rfl
theorem rsx_cont {e : Env1} {s : S} : RSx (.cont e s) N B C Z ↔ C e s := Iff.rfl
theorem rsx_ite {c : Prop} [Decidable c] {a b : RS} : RSx (if c then a else b) N B C Z ↔ if c then RSx a N B C Z else RSx b N B C Z := by
  split <;> rfl
theorem rsx_thn {r : R β} {env : Env1} {f : β → S → RS} : RSx (r.thn env f) N B C Z ↔ Gets r fun d s => RSx (f d s) N B C Z := by
  cases r with
  | ok a s1 => exact ⟨fun h => .of h, fun h => gets_ok.mp h⟩
  | ex c fs s1 => exact ⟨fun h => h.elim, fun ⟨_, _, e, _⟩ => by cases e⟩
  | bad => exact ⟨fun h => h.elim, fun ⟨_, _, e, _⟩ => by cases e⟩
theorem rsx_of {r : RS} (h : RSw r N Z) : RSx r N B C Z := by cases r <;> first | exact h | exact h.elim
theorem gets_fnM {n z : Nat} {m : MS} {ds : List D} {s : S} (hl : ds.length = n) : Gets (fnM n z m ds s) Z ↔ RSw (m (ds.map some ++ List.replicate (z - n) none) s) (fun _ s => Z (.p .none) s) Z := by
  unfold fnM
  rw [if_pos hl]
  cases m (ds.map some ++ List.replicate (z - n) none) s <;> first | exact gets_ok | exact ⟨(fun ⟨_, _, e, _⟩ => by cases e), (fun h => h.elim)⟩
theorem pure_eq {f : List D → S → R D} {ds : List D} {s : S} {x : PyData} (ho : onlyP ds = true) (h : Gets (f ds ⟨[], s.w⟩) fun d s' => d = .p x ∧ s'.w = s.w) : pureRun f ds s = .ok (.p x) s := by
  obtain ⟨d, s', e, rfl, h2⟩ := h
  unfold pureRun
  rw [if_pos ho]
  simp only [e, h2]
theorem pure_gets {f : List D → S → R D} {ds : List D} {g w : GH} (ho : onlyP ds = true) (h : Gets (f ds ⟨[], w⟩) fun d s' => ∃ x, d = .p x ∧ Z (.p x) ⟨g, s'.w⟩) : Gets (pureRun f ds ⟨g, w⟩) Z := by
  obtain ⟨d, s', e, x, rfl, h2⟩ := h
  refine ⟨.p x, ⟨g, s'.w⟩, ?_, h2⟩
  unfold pureRun
  rw [if_pos ho]
  simp only [e]
end

/-! ### small things -/
@[simp] theorem allP_map {α : Type} {f : α → PyData} : ∀ {xs : List α}, allP (xs.map fun x => D.p (f x)) = some (xs.map f)
  | [] => rfl
  | x :: xs => by simp [allP, allP_map (xs := xs)]
@[simp] theorem allP_p {xs : List PyData} : allP (xs.map D.p) = some xs := by
  have := allP_map (f := id) (xs := xs)
  simpa using this
theorem allP_each {F : D → D → Prop} {G : PyData → Prop} (h : ∀ x d, F x d → ∃ y, d = .p y ∧ G y) : ∀ {xs ds : List D}, Paired F xs ds → ∃ ys, allP ds = some ys ∧ ys.length = xs.length ∧ ∀ y ∈ ys, G y
  | _, _, .nil => ⟨[], rfl, rfl, by simp⟩
  | _, _, .cons q t => by
    obtain ⟨ys, e, l, g⟩ := allP_each h t
    obtain ⟨y, rfl, gy⟩ := h _ _ q
    exact ⟨y :: ys, by simp [allP, e], by simp [l], by simpa using ⟨gy, g⟩⟩
@[simp] theorem allB_map {α : Type} {f : α → Bool} : ∀ {xs : List α}, allB (xs.map fun x => PyData.bool (f x)) = some (xs.map f)
  | [] => rfl
  | x :: xs => by simp [allB, allB_map (xs := xs)]
@[simp] theorem allI_map {α : Type} {f : α → Int} : ∀ {xs : List α}, allI (xs.map fun x => PyData.int (f x)) = some (xs.map f)
  | [] => rfl
  | x :: xs => by simp [allI, allI_map (xs := xs)]
theorem ixAt_nat {α : Type} {xs : List α} {n : Nat} (h : n < xs.length) : ixAt xs (n : Int) = some xs[n] := by
  unfold ixAt ixN
  split
  · simp_all
  · omega
theorem ixAt_mem {α : Type} {xs : List α} {i : Int} (h0 : 0 ≤ i) (h1 : i < xs.length) : ∃ x, x ∈ xs ∧ ixAt xs i = some x := by
  obtain ⟨k, rfl⟩ := Int.eq_ofNat_of_zero_le h0
  have hk : k < xs.length := by omega
  exact ⟨xs[k], List.getElem_mem hk, ixAt_nat hk⟩
theorem ixN_nat {n k : Nat} (h : k < n) : ixN n (k : Int) = some k := by
  unfold ixN
  rw [if_pos (by omega), if_pos (by omega)]
  simp
theorem mp_ft : (false == true) = false := rfl
theorem mp_tf : (true == false) = false := rfl
theorem ixAt_map {α β : Type} {f : α → β} {xs : List α} {i : Int} : ixAt (xs.map f) i = (ixAt xs i).map f := by
  unfold ixAt
  rw [List.length_map]
  cases ixN xs.length i with
  | none => rfl
  | some j => simp
theorem ixAt_last {α : Type} {x : α} {xs : List α} : ixAt (xs ++ [x]) (-1) = some x := by
  unfold ixAt ixN
  rw [if_neg (by omega), if_pos (by simp; omega)]
  have : ((-1 : Int) + ((xs ++ [x]).length : Nat)).toNat = xs.length := by simp; omega
  rw [this]
  simp
theorem ixAt_0 {α : Type} {x : α} {xs : List α} : ixAt (x :: xs) 0 = some x := ixAt_nat (n := 0) (xs := x :: xs) (by simp)
theorem ixAt_1 {α : Type} {x y : α} {xs : List α} : ixAt (x :: y :: xs) 1 = some y := ixAt_nat (n := 1) (xs := x :: y :: xs) (by simp)
theorem ixAt_2 {α : Type} {x y z : α} {xs : List α} : ixAt (x :: y :: z :: xs) 2 = some z := ixAt_nat (n := 2) (xs := x :: y :: z :: xs) (by simp)
theorem ixAt_3 {α : Type} {x y z t : α} {xs : List α} : ixAt (x :: y :: z :: t :: xs) 3 = some t := ixAt_nat (n := 3) (xs := x :: y :: z :: t :: xs) (by simp)
theorem beq_dec {a b : Int} : (a == b) = decide (a = b) := by
  by_cases h : a = b <;> simp [h]
theorem iEq_int {a b : Int} : iEq (.int a) (.int b) = some (.bool (decide (a = b))) := by
  simp [iEq, SeqAt.shaped, PyData.canLay0, PyData.depth, PyData.eqv, beq_dec]
theorem iNe_int {a b : Int} : iNe (.int a) (.int b) = some (.bool (!decide (a = b))) := by
  simp [iNe, SeqAt.shaped, PyData.canLay0, PyData.depth, PyData.eqv, beq_dec]
theorem mul_ok {i j : Int} (h : (-(2 ^ 64) < i ∧ i < 2 ^ 64) ∨ (-(2 ^ 64) < j ∧ j < 2 ^ 64)) : mulOk i j = true := decide_eq_true h
theorem mul_nn {i j : Int} (h : -1000000000000000000 < i ∧ i < 1000000000000000000) : mulOk i j = true := mul_ok (.inl (by omega))
theorem mul_nl {i j : Int} (h : -1000000000000000000 < j ∧ j < 1000000000000000000) : mulOk i j = true := mul_ok (.inr (by omega))
theorem div_ok {j : Int} (h : 0 < j ∧ j < 1073741824) : divOk j = true := decide_eq_true h
theorem cutL_sub {α : Type} {xs : List α} {lo hi : Option Int} : (cutL xs lo hi).length ≤ xs.length := by
  unfold cutL
  rw [List.length_take, List.length_drop]
  omega
theorem cutL_map {α β : Type} {f : α → β} {xs : List α} {lo hi : Option Int} : cutL (xs.map f) lo hi = (cutL xs lo hi).map f := by
  simp [cutL, List.map_drop, List.map_take]
theorem cut_take {α : Type} {xs : List α} {k : Nat} : cutL xs none (some (k : Int)) = xs.take k := by
  unfold cutL
  rw [HT.sIx_none, HT.sIx_nat]
  rcases Nat.le_total k xs.length with h | h
  · rw [Nat.min_eq_left h]; simp
  · rw [Nat.min_eq_right h, List.take_of_length_le (l := xs) h]; simp
theorem cut_drop {α : Type} {xs : List α} {k : Nat} : cutL xs (some (k : Int)) none = xs.drop k := by
  unfold cutL
  rw [HT.sIx_none, HT.sIx_nat]
  rcases Nat.le_total k xs.length with h | h
  · rw [Nat.min_eq_left h, List.take_of_length_le (by simp)]
  · rw [Nat.min_eq_right h, List.drop_of_length_le h]; simp
theorem map_map {α β γ : Type} {f : α → β} {g : β → γ} {xs : List α} : (xs.map f).map g = xs.map fun x => g (f x) := by
  simp [Function.comp_def]
theorem isi0 : isiT "NoneType" "bool" = false := by decide
theorem isi1 : isiT "NoneType" "int" = false := by decide
theorem isi2 : isiT "NoneType" "str" = false := by decide
theorem isi3 : isiT "NoneType" "tuple" = false := by decide
theorem isi4 : isiT "NoneType" "list" = false := by decide
theorem isi5 : isiT "NoneType" "dict" = false := by decide
theorem isi6 : isiT "bool" "bool" = true := by decide
theorem isi7 : isiT "bool" "int" = true := by decide
theorem isi8 : isiT "bool" "str" = false := by decide
theorem isi9 : isiT "bool" "tuple" = false := by decide
theorem isi10 : isiT "bool" "list" = false := by decide
theorem isi11 : isiT "bool" "dict" = false := by decide
theorem isi12 : isiT "int" "bool" = false := by decide
theorem isi13 : isiT "int" "int" = true := by decide
theorem isi14 : isiT "int" "str" = false := by decide
theorem isi15 : isiT "int" "tuple" = false := by decide
theorem isi16 : isiT "int" "list" = false := by decide
theorem isi17 : isiT "int" "dict" = false := by decide
theorem isi18 : isiT "str" "bool" = false := by decide
theorem isi19 : isiT "str" "int" = false := by decide
theorem isi20 : isiT "str" "str" = true := by decide
theorem isi21 : isiT "str" "tuple" = false := by decide
theorem isi22 : isiT "str" "list" = false := by decide
theorem isi23 : isiT "str" "dict" = false := by decide
theorem isi24 : isiT "tuple" "bool" = false := by decide
theorem isi25 : isiT "tuple" "int" = false := by decide
theorem isi26 : isiT "tuple" "str" = false := by decide
theorem isi27 : isiT "tuple" "tuple" = true := by decide
theorem isi28 : isiT "tuple" "list" = false := by decide
theorem isi29 : isiT "tuple" "dict" = false := by decide
theorem isi30 : isiT "list" "bool" = false := by decide
theorem isi31 : isiT "list" "int" = false := by decide
theorem isi32 : isiT "list" "str" = false := by decide
theorem isi33 : isiT "list" "tuple" = false := by decide
theorem isi34 : isiT "list" "list" = true := by decide
theorem isi35 : isiT "list" "dict" = false := by decide
theorem isi36 : isiT "dict" "bool" = false := by decide
theorem isi37 : isiT "dict" "int" = false := by decide
theorem isi38 : isiT "dict" "str" = false := by decide
theorem isi39 : isiT "dict" "tuple" = false := by decide
theorem isi40 : isiT "dict" "list" = false := by decide
theorem isi41 : isiT "dict" "dict" = true := by decide
theorem dIx_tup {ps : List PyData} {i : Int} {s : S} : dIx (.p (.tuple ps)) (.p (.int i)) s = ret1 (ixAt ps i) s := rfl
theorem dIx_lst {ps : List PyData} {i : Int} {s : S} : dIx (.p (.list ps)) (.p (.int i)) s = ret1 (ixAt ps i) s := rfl
theorem dIx_ref {j : Nat} {i : Int} {s : S} : dIx (.ref j) (.p (.int i)) s = (match s.g[j]? with
      | some (some (.lst xs)) => (match ixAt xs i with
        | some d => .ok d s
        | none => .bad)
      | _ => .bad) := rfl
theorem sizeOk_of {n : Nat} (h : n ≤ 16777216) : sizeOk n = true := by
  unfold sizeOk sizeLine
  simp
  omega
theorem rng_len {lo : Int} {n : Nat} : (rngItems lo n).length = n := by simp [rngItems]
theorem mem_rng {lo : Int} {n : Nat} {d : D} (h : d ∈ rngItems lo n) : ∃ k : Nat, k < n ∧ d = .p (.int (lo + k)) := by
  unfold rngItems at h
  obtain ⟨k, hk, e⟩ := List.mem_map.mp h
  exact ⟨k, List.mem_range.mp hk, e.symm⟩
theorem rngOk_of {i j : Int} (h1 : -1000000000 ≤ i) (h2 : i ≤ 1000000000) (h3 : -1000000000 ≤ j) (h4 : j ≤ 1000000000) : rngOk i j := by
  unfold rngOk
  omega
theorem onlyP_p {x : PyData} {ds : List D} : onlyP (.p x :: ds) = onlyP ds := rfl

/-! ### the well, first kind -/
def WA (w : GH) : Prop := ∃ (ns : List Int) (a b c : Int), 0 ≤ a ∧ w = [some (.lst [.p (.list (ns.map .int)), .p (.int a), .p (.int b), .p (.int c)])]
/-- a def that draws keeps the well and comes to data -/
def Draws (m : List D → S → R D) (I : GH → Prop) (ds : List D) (F : PyData → Prop) : Prop := ∀ g w, I w → ∃ x w', F x ∧ I w' ∧ m ds ⟨g, w⟩ = .ok (.p x) ⟨g, w'⟩
theorem pure_draws {f : List D → S → R D} {I : GH → Prop} {ds : List D} {F : PyData → Prop} (hp : onlyP ds = true) (h : ∀ w, I w → Gets (f ds ⟨[], w⟩) fun d s => I s.w ∧ ∃ x, d = .p x ∧ F x) : Draws (pureRun f) I ds F := by
  intro g w hw
  obtain ⟨d, s', e, hi, x, rfl, hf⟩ := h w hw
  refine ⟨x, s'.w, hf, hi, ?_⟩
  unfold pureRun
  rw [if_pos hp]
  simp only [e]
theorem lc_typed {α : Type} {ok : S → Prop} {i : Nat} {me : ME} {env0 : Env1} {I : S → Prop} {P : α → Prop} {f : α → PyData} {xs : List D} {s : S} {Q : List D → S → Prop} (ho : ∀ s, I s → ok s)
    (h : ∀ x ∈ xs, ∀ s, I s → Gets (me (env0.set i (some x)) s) fun d s' => I s' ∧ ∃ a, P a ∧ d = .p (f a)) (hi : I s)
    (k : ∀ (as : List α) s', as.length = xs.length → (∀ a ∈ as, P a) → I s' → Q (as.map fun a => D.p (f a)) s') : Gets (lcL ok (gSet i) mYes me env0 xs s) Q := by
  refine Gets.mono (lc_each (F := fun _ d => ∃ a, P a ∧ d = .p (f a)) ho (fun x hx s hs => (h x hx s hs).mono fun d s' q => ⟨q.2, q.1⟩) s hi) fun ds s' ⟨q, hs⟩ => ?_
  have : ∀ {xs ds : List D}, Paired (fun _ d => ∃ a, P a ∧ d = .p (f a)) xs ds → ∃ as : List α, ds = as.map (fun a => D.p (f a)) ∧ as.length = xs.length ∧ ∀ a ∈ as, P a := by
    intro xs ds p
    induction p with
    | nil => exact ⟨[], rfl, rfl, by simp⟩
    | cons q t ih =>
      obtain ⟨a, pa, rfl⟩ := q
      obtain ⟨as, rfl, l, ps⟩ := ih
      exact ⟨a :: as, rfl, by simp [l], by simpa using ⟨pa, ps⟩⟩
  obtain ⟨as, rfl, l, ps⟩ := this q
  exact k as s' l ps hs
theorem ix_w {xs : List PyData} {r : Nat} {s : S} {Q : D → S → Prop} (h : r < xs.length) (k : ∀ x ∈ xs, Q (.p x) s) : Gets (ret1 (ixAt xs (r : Int)) s) Q := by
  rw [ixAt_nat h]
  exact .of (k _ (List.getElem_mem h))
theorem natAdd1 {a : Nat} : (1 : Int) + (a : Int) = ((1 + a : Nat) : Int) := by omega
end Mp

/-! MP, part M: machines as typed values, in plain Lean. -/
namespace Mp
open PySem PySem.Spec PyProof.Rows L2

/-! ### judged data -/
def isInteger : PyData → Bool
  | .int _ => true
  | _ => false
def isBetween (x : PyData) (a b : Int) : Bool := match x with
  | .int i => decide (a ≤ i) && decide (i ≤ b)
  | _ => false
def isIndex (x : PyData) (n : Int) : Bool := isBetween x 0 (n - 1)
def isTupleOf (x : PyData) (n : Int) : Bool := match x with
  | .tuple ps => decide ((ps.length : Int) = n)
  | _ => false
def isText (n : Int) (x : PyData) : Bool := match x with
  | .tuple ps => ps.all (isIndex · n)
  | _ => false
def isStep (x : PyData) (q : Int) : Bool := match x with
  | .none => true
  | .tuple [a, b] => isBetween a 0 60 && isIndex b q
  | _ => false
def isFin (x : PyData) : Bool := match x with
  | .none => true
  | y => isBetween y 1 60
def isRow (x : PyData) (n q : Int) : Bool := match x with
  | .tuple [a, .tuple ss] => decide ((ss.length : Int) = n) && isFin a && ss.all (isStep · q)
  | _ => false
def isMachine (x : PyData) : Bool := match x with
  | .tuple [.int n, .tuple rs] => decide (1 ≤ n) && decide (n ≤ 8) && (decide (1 ≤ rs.length) && decide (rs.length ≤ 30) && rs.all (isRow · n rs.length))
  | _ => false

/-! ### typed machines -/
abbrev MSt := Option (Nat × Nat)
structure MRow where
  fin : Option Nat
  ss : List MSt
structure Mac where
  n : Nat
  rs : List MRow
def eO : Option Nat → PyData
  | none => .none
  | some k => .int k
def eS : MSt → PyData
  | none => .none
  | some p => .tuple [.int p.1, .int p.2]
def eR (r : MRow) : PyData := .tuple [eO r.fin, .tuple (r.ss.map eS)]
def eM (m : Mac) : PyData := .tuple [.int m.n, .tuple (m.rs.map eR)]
def eN (k : Nat) : PyData := .int k
def eT (t : List Nat) : PyData := .tuple (t.map eN)
def MSt.Ok (q : Nat) (s : MSt) : Prop := ∀ p, s = some p → p.1 ≤ 60 ∧ p.2 < q
structure MRow.Ok (n q : Nat) (r : MRow) : Prop where
  len : r.ss.length = n
  fin : ∀ k, r.fin = some k → 1 ≤ k ∧ k ≤ 60
  ss : ∀ s ∈ r.ss, MSt.Ok q s
structure Mac.Ok (m : Mac) : Prop where
  n1 : 1 ≤ m.n
  n8 : m.n ≤ 8
  r1 : 1 ≤ m.rs.length
  r30 : m.rs.length ≤ 30
  rs : ∀ r ∈ m.rs, r.Ok m.n m.rs.length
def TxOk (n : Nat) (t : List Nat) : Prop := ∀ c ∈ t, c < n

theorem between_nat {x : PyData} {a b : Int} (ha : 0 ≤ a) (h : isBetween x a b = true) : ∃ k : Nat, x = .int k ∧ a ≤ k ∧ k ≤ b := by
  unfold isBetween at h
  split at h
  · rename_i i
    simp at h
    exact ⟨i.toNat, by congr 1; omega, by omega, by omega⟩
  · cases h
theorem map_of {G : PyData → Prop} {α : Type} {P : α → Prop} {f : α → PyData} (h : ∀ x, G x → ∃ a, P a ∧ x = f a) : ∀ {xs : List PyData}, (∀ x ∈ xs, G x) → ∃ as : List α, xs = as.map f ∧ (∀ a ∈ as, P a) ∧ as.length = xs.length
  | [], _ => ⟨[], rfl, by simp, rfl⟩
  | x :: xs, k => by
    obtain ⟨a, pa, rfl⟩ := h x (k x List.mem_cons_self)
    obtain ⟨as, rfl, ps, l⟩ := map_of h fun y hy => k y (List.mem_cons_of_mem _ hy)
    exact ⟨a :: as, rfl, by simpa using ⟨pa, ps⟩, by simp⟩
theorem isText_of {n : Nat} {x : PyData} (h : isText n x = true) : ∃ t, TxOk n t ∧ x = eT t := by
  unfold isText at h
  split at h
  · rename_i ps
    rw [List.all_eq_true] at h
    obtain ⟨t, rfl, ht, _⟩ := map_of (P := fun k : Nat => k < n) (f := eN) (fun y hy => by
      obtain ⟨k, rfl, _, hk⟩ := between_nat (by omega) hy
      exact ⟨k, by omega, rfl⟩) h
    exact ⟨t, ht, rfl⟩
  · cases h
theorem isText_eT {n : Nat} {t : List Nat} (h : TxOk n t) : isText n (eT t) = true := by
  simp only [eT, isText, List.all_map, List.all_eq_true]
  intro c hc
  have := h c hc
  simp [eN, isIndex, isBetween]
  omega
theorem isStep_of {q : Nat} {x : PyData} (h : isStep x q = true) : ∃ s, MSt.Ok q s ∧ x = eS s := by
  unfold isStep at h
  split at h
  · exact ⟨none, (fun p e => by cases e), rfl⟩
  · rename_i a b
    rw [Bool.and_eq_true] at h
    obtain ⟨k, rfl, _, hk⟩ := between_nat (by omega) h.1
    obtain ⟨j, rfl, _, hj⟩ := between_nat (by omega) h.2
    refine ⟨some (k, j), fun p e => ?_, rfl⟩
    cases e
    exact ⟨by omega, by show j < q; omega⟩
  · cases h
theorem isStep_eS {q : Nat} {s : MSt} (h : MSt.Ok q s) : isStep (eS s) q = true := by
  cases s with
  | none => rfl
  | some p =>
    have := h p rfl
    simp [eS, isStep, isIndex, isBetween]
    omega
theorem isFin_of {x : PyData} (h : isFin x = true) : ∃ o : Option Nat, (∀ k, o = some k → 1 ≤ k ∧ k ≤ 60) ∧ x = eO o := by
  unfold isFin at h
  split at h
  · exact ⟨none, (fun p e => by cases e), rfl⟩
  · obtain ⟨k, rfl, h1, hk⟩ := between_nat (by omega) h
    refine ⟨some k, fun p e => ?_, rfl⟩
    cases e
    omega
theorem isFin_eO {o : Option Nat} (h : ∀ k, o = some k → 1 ≤ k ∧ k ≤ 60) : isFin (eO o) = true := by
  cases o with
  | none => rfl
  | some k =>
    have := h k rfl
    simp [eO, isFin, isBetween]
    omega
theorem isRow_of {n q : Nat} {x : PyData} (h : isRow x n q = true) : ∃ r, MRow.Ok n q r ∧ x = eR r := by
  unfold isRow at h
  split at h
  · rename_i a ss
    simp only [Bool.and_eq_true, decide_eq_true_eq, List.all_eq_true] at h
    obtain ⟨⟨h1, h2⟩, h3⟩ := h
    obtain ⟨o, ho, rfl⟩ := isFin_of h2
    obtain ⟨sl, rfl, hs, hl⟩ := map_of (P := MSt.Ok q) (f := eS) (fun y hy => isStep_of hy) h3
    exact ⟨⟨o, sl⟩, ⟨by simp at h1; show sl.length = n; omega, ho, hs⟩, rfl⟩
  · cases h
theorem isRow_eR {n q : Nat} {r : MRow} (h : MRow.Ok n q r) : isRow (eR r) n q = true := by
  simp only [eR, isRow, Bool.and_eq_true, decide_eq_true_eq, List.all_map, List.all_eq_true, List.length_map]
  exact ⟨⟨by rw [h.len], isFin_eO h.fin⟩, fun s hs => isStep_eS (h.ss s hs)⟩
theorem isMachine_of {x : PyData} (h : isMachine x = true) : ∃ m : Mac, m.Ok ∧ x = eM m := by
  unfold isMachine at h
  split at h
  · rename_i n rs
    simp only [Bool.and_eq_true, decide_eq_true_eq, List.all_eq_true] at h
    obtain ⟨⟨h1, h2⟩, ⟨h3, h4⟩, h5⟩ := h
    obtain ⟨k, rfl⟩ := Int.eq_ofNat_of_zero_le (show 0 ≤ n by omega)
    obtain ⟨sl, rfl, hs, hl⟩ := map_of (P := MRow.Ok k rs.length) (f := eR) (fun y hy => isRow_of hy) h5
    refine ⟨⟨k, sl⟩, ⟨by simp; omega, by simp; omega, by simp at h3; simpa using h3, by simpa using h4, by simpa using hs⟩, rfl⟩
  · cases h
theorem isMachine_eM {m : Mac} (h : m.Ok) : isMachine (eM m) = true := by
  simp only [eM, isMachine, Bool.and_eq_true, decide_eq_true_eq, List.all_map, List.all_eq_true, List.length_map]
  have := h.n1
  have := h.n8
  exact ⟨⟨by omega, by omega⟩, ⟨h.r1, h.r30⟩, fun s hs => isRow_eR (h.rs s hs)⟩

/-! ### reading -/
def Mac.row (m : Mac) (q : Nat) : MRow := m.rs[q]?.getD ⟨none, []⟩
def MRow.st (r : MRow) (c : Nat) : MSt := r.ss[c]?.getD none
/-- the additional length so far, the state reached -/
def Mac.read (m : Mac) : Nat → Nat → List Nat → Nat × Option Nat
  | q, f, [] => (f, some q)
  | q, f, c :: cs => match (m.row q).st c with
    | none => (f, none)
    | some p => m.read p.2 (f + p.1) cs
def Mac.len (m : Mac) (t : List Nat) : Option Nat := match m.read 0 0 t with
  | (_, none) => none
  | (f, some q) => (m.row q).fin.map (f + ·)
theorem Mac.row_eq {m : Mac} {q : Nat} (h : q < m.rs.length) : m.rs[q] = m.row q := by simp [Mac.row, h]
theorem MRow.st_eq {r : MRow} {c : Nat} (h : c < r.ss.length) : r.ss[c] = r.st c := by simp [MRow.st, h]
theorem Mac.Ok.row {m : Mac} (h : m.Ok) {q : Nat} (hq : q < m.rs.length) : (m.row q).Ok m.n m.rs.length := by
  rw [← Mac.row_eq hq]
  exact h.rs _ (List.getElem_mem hq)
theorem Mac.Ok.st {m : Mac} (h : m.Ok) {q c : Nat} (hq : q < m.rs.length) (hc : c < m.n) : MSt.Ok m.rs.length ((m.row q).st c) := by
  have r := h.row hq
  rw [← MRow.st_eq (by rw [r.len]; exact hc)]
  exact r.ss _ (List.getElem_mem _)
theorem ix_M0 {m : Mac} {s : S} : dIx (.p (eM m)) (.p (.int 0)) s = .ok (.p (.int m.n)) s := by simp [dIx, eM, ixAt_0, ret1]
theorem ix_M1 {m : Mac} {s : S} : dIx (.p (eM m)) (.p (.int 1)) s = .ok (.p (.tuple (m.rs.map eR))) s := by simp [dIx, eM, ixAt_1, ret1]
theorem ix_R0 {r : MRow} {s : S} : dIx (.p (eR r)) (.p (.int 0)) s = .ok (.p (eO r.fin)) s := by simp [dIx, eR, ixAt_0, ret1]
theorem ix_R1 {r : MRow} {s : S} : dIx (.p (eR r)) (.p (.int 1)) s = .ok (.p (.tuple (r.ss.map eS))) s := by simp [dIx, eR, ixAt_1, ret1]
theorem ix_S0 {p : Nat × Nat} {s : S} : dIx (.p (eS (some p))) (.p (.int 0)) s = .ok (.p (.int p.1)) s := by simp [dIx, eS, ixAt_0, ret1]
theorem ix_S1 {p : Nat × Nat} {s : S} : dIx (.p (eS (some p))) (.p (.int 1)) s = .ok (.p (.int p.2)) s := by simp [dIx, eS, ixAt_1, ret1]
theorem ix_rs {m : Mac} {q : Nat} (h : q < m.rs.length) {s : S} : dIx (.p (.tuple (m.rs.map eR))) (.p (.int q)) s = .ok (.p (eR (m.row q))) s := by
  simp [dIx, ixAt_nat (xs := m.rs.map eR) (n := q) (by simpa using h), Mac.row_eq h, ret1]
theorem ix_ss {r : MRow} {c : Nat} (h : c < r.ss.length) {s : S} : dIx (.p (.tuple (r.ss.map eS))) (.p (.int c)) s = .ok (.p (eS (r.st c))) s := by
  simp [dIx, ixAt_nat (xs := r.ss.map eS) (n := c) (by simpa using h), MRow.st_eq h, ret1]
theorem Mac.read_ok {m : Mac} (h : m.Ok) : ∀ {t : List Nat} {q f f' q' : Nat}, TxOk m.n t → q < m.rs.length → m.read q f t = (f', some q') → q' < m.rs.length
  | [], q, f, f', q', _, hq, e => by
    simp only [Mac.read, Prod.mk.injEq, Option.some.injEq] at e
    omega
  | c :: cs, q, f, f', q', ht, hq, e => by
    have hc := ht c List.mem_cons_self
    unfold Mac.read at e
    split at e
    · simp at e
    · rename_i p hp
      exact Mac.read_ok h (fun x hx => ht x (List.mem_cons_of_mem _ hx)) (h.st hq hc p hp).2 e
def eRead (p : Nat × Option Nat) : PyData := .tuple [.int p.1, eO p.2]
theorem rng0 {n : Nat} : rngItems 0 n = (List.range n).map fun k => D.p (eN k) := by
  simp [rngItems, eN]
theorem Mac.read_add {m : Mac} : ∀ (t : List Nat) (q f g : Nat), m.read q (f + g) t = ((m.read q f t).1 + g, (m.read q f t).2)
  | [], q, f, g => rfl
  | c :: t, q, f, g => by
    unfold Mac.read
    cases (m.row q).st c with
    | none => rfl
    | some p =>
      show m.read p.2 (f + g + p.1) t = _
      rw [show f + g + p.1 = f + p.1 + g by omega, Mac.read_add t]
theorem Mac.read_app {m : Mac} : ∀ (a b : List Nat) (q f : Nat), m.read q f (a ++ b) = match m.read q f a with
    | (f', none) => (f', none)
    | (f', some q') => m.read q' f' b
  | [], b, q, f => rfl
  | c :: a, b, q, f => by
    simp only [List.cons_append, Mac.read]
    cases (m.row q).st c with
    | none => rfl
    | some p => exact Mac.read_app a b p.2 (f + p.1)
theorem iEq_eO {a b : Option Nat} : iEq (eO a) (eO b) = some (.bool (decide (a = b))) := by
  cases a <;> cases b <;> simp [iEq, eO, SeqAt.shaped, PyData.canLay0, PyData.depth, PyData.eqv, beq_dec]
  all_goals omega
theorem iNe_eO {a b : Option Nat} : iNe (eO a) (eO b) = some (.bool (!decide (a = b))) := by
  cases a <;> cases b <;> simp [iNe, eO, SeqAt.shaped, PyData.canLay0, PyData.depth, PyData.eqv, beq_dec]
  all_goals omega
theorem iEq_tagN {x : Str} (h : PyData.strOk x = true) : iEq (.tuple [.str x, .none]) (.tuple [.str x, .none]) = some (.bool true) := by
  simp [iEq, SeqAt.shaped, PyData.canLay0, PyData.canLayAll0, PyData.depth, PyData.depthAll, PyData.eqv, PyData.eqvAll, h]
theorem iEq_tagO {x : Str} {a : Option Nat} (h : PyData.strOk x = true) : iEq (.tuple [.str x, eO a]) (.tuple [.str x, eO a]) = some (.bool true) := by
  cases a <;> simp [iEq, eO, SeqAt.shaped, PyData.canLay0, PyData.canLayAll0, PyData.depth, PyData.depthAll, PyData.eqv, PyData.eqvAll, h]
/-- a step, its target one row further down -/
def MSt.later (s : MSt) : MSt := s.map fun p => (p.1, p.2 + 1)
def MRow.later (r : MRow) : MRow := ⟨r.fin, r.ss.map MSt.later⟩
/-- the machine begun at a state -/
def Mac.begun (m : Mac) (q : Nat) : Mac := ⟨m.n, (m.row q :: m.rs).map MRow.later⟩
theorem MRow.later_st {r : MRow} {c : Nat} : r.later.st c = MSt.later (r.st c) := by
  unfold MRow.later MRow.st
  simp only [List.getElem?_map]
  cases r.ss[c]? <;> rfl
theorem Mac.begun_0 {m : Mac} {q : Nat} : (m.begun q).row 0 = (m.row q).later := rfl
theorem Mac.begun_s {m : Mac} {q k : Nat} (h : k < m.rs.length) : (m.begun q).row (k + 1) = (m.row k).later := by
  simp [Mac.begun, Mac.row, h]
theorem MSt.Ok.later {q : Nat} {s : MSt} (h : MSt.Ok q s) : MSt.Ok (q + 1) (MSt.later s) := by
  intro p e
  cases s with
  | none => cases e
  | some t =>
    cases e
    have := h t rfl
    exact ⟨this.1, by show t.2 + 1 < q + 1; omega⟩
theorem MRow.Ok.later {n q : Nat} {r : MRow} (h : MRow.Ok n q r) : MRow.Ok n (q + 1) r.later where
  len := by simp [MRow.later, h.len]
  fin := h.fin
  ss := by
    intro s hs
    obtain ⟨t, ht, rfl⟩ := List.mem_map.mp hs
    exact (h.ss t ht).later
theorem Mac.Ok.begun {m : Mac} (h : m.Ok) {q : Nat} (hq : q < m.rs.length) (h29 : m.rs.length ≤ 29) : (m.begun q).Ok where
  n1 := h.n1
  n8 := h.n8
  r1 := by simp [Mac.begun]
  r30 := by simp [Mac.begun]; omega
  rs := by
    intro r hr
    obtain ⟨t, ht, rfl⟩ := List.mem_map.mp hr
    have hl : (m.begun q).rs.length = m.rs.length + 1 := by simp [Mac.begun]
    rw [hl]
    rcases List.mem_cons.mp ht with rfl | ht
    · exact (h.row hq).later
    · exact (h.rs t ht).later
theorem Mac.begun_read {m : Mac} (h : m.Ok) {q0 : Nat} : ∀ {t : List Nat} {k f : Nat}, TxOk m.n t → k < m.rs.length → (m.begun q0).read (k + 1) f t = ((m.read k f t).1, (m.read k f t).2.map (· + 1))
  | [], k, f, _, _ => rfl
  | c :: t, k, f, ht, hk => by
    have hc := ht c List.mem_cons_self
    unfold Mac.read
    rw [Mac.begun_s hk, MRow.later_st]
    have := h.st hk hc
    cases hs : (m.row k).st c with
    | none => rfl
    | some p =>
      rw [hs] at this
      have := this p rfl
      exact Mac.begun_read h (fun x hx => ht x (List.mem_cons_of_mem _ hx)) this.2
/-- from any state -/
def Mac.lenF (m : Mac) (q f : Nat) (t : List Nat) : Option Nat := match m.read q f t with
  | (_, none) => none
  | (f', some q') => (m.row q').fin.map (f' + ·)
theorem Mac.lenF_add {m : Mac} {q f : Nat} {t : List Nat} : m.lenF q f t = (m.lenF q 0 t).map (f + ·) := by
  unfold Mac.lenF
  have := m.read_add t q 0 f
  rw [Nat.zero_add] at this
  rw [this]
  rcases m.read q 0 t with ⟨f', _ | q'⟩
  · rfl
  · simp only
    cases (m.row q').fin with
    | none => rfl
    | some e => simp; omega
theorem Mac.begun_len {m : Mac} (h : m.Ok) {q : Nat} (hq : q < m.rs.length) {t : List Nat} (ht : TxOk m.n t) : (m.begun q).len t = m.lenF q 0 t := by
  cases t with
  | nil => simp [Mac.len, Mac.lenF, Mac.read, Mac.begun_0, MRow.later]
  | cons c t =>
    have hc := ht c List.mem_cons_self
    unfold Mac.len Mac.lenF Mac.read
    rw [Mac.begun_0, MRow.later_st]
    have ok := h.st hq hc
    cases hs : (m.row q).st c with
    | none => rfl
    | some p =>
      rw [hs] at ok
      have ok := ok p rfl
      have ht' : TxOk m.n t := fun x hx => ht x (List.mem_cons_of_mem _ hx)
      show (match (m.begun q).read (p.2 + 1) (0 + p.1) t with
        | (_, none) => none
        | (f, some q') => ((m.begun q).row q').fin.map (f + ·)) = _
      rw [Mac.begun_read h ht' ok.2]
      rcases hr : m.read p.2 (0 + p.1) t with ⟨f', _ | q'⟩
      · simp only [hr, Option.map_none]
      · have hq' := Mac.read_ok h ht' ok.2 hr
        simp only [hr, Option.map_some]
        rw [Mac.begun_s hq']
        rfl
theorem Mac.len_cut {m : Mac} {a b : List Nat} {f q : Nat} (h : m.read 0 0 a = (f, some q)) : m.len (a ++ b) = (m.lenF q 0 b).map (f + ·) := by
  rw [← Mac.lenF_add]
  unfold Mac.len Mac.lenF
  rw [Mac.read_app, h]
/-! ### data to be spoilt: how deep, how wide -/
def Fl (A : Nat) : Nat → PyData → Prop
  | 0, x => (∀ ps, x ≠ .tuple ps) ∧ (x = .none ∨ ∃ i, x = .int i)
  | d + 1, x => (∃ ps, x = .tuple ps ∧ ps.length ≤ A ∧ ∀ p ∈ ps, Fl A d p) ∨ (x = .none ∨ ∃ i, x = .int i)
def nds : Nat → PyData → Nat
  | d + 1, .tuple ps => 1 + (ps.map (nds d)).sum
  | _, _ => 1
theorem nds_pos : ∀ (d : Nat) (x : PyData), 1 ≤ nds d x
  | 0, x => by simp [nds]
  | d + 1, x => by
    unfold nds
    split <;> omega
theorem sum_le {B : Nat} : ∀ {xs : List Nat}, (∀ x ∈ xs, x ≤ B) → xs.sum ≤ xs.length * B
  | [], _ => by simp
  | x :: xs, h => by
    have h1 := h x List.mem_cons_self
    have h2 := sum_le fun y hy => h y (List.mem_cons_of_mem _ hy)
    simp only [List.sum_cons, List.length_cons, Nat.succ_mul]
    omega
theorem nds_le {A : Nat} : ∀ {d : Nat} {x : PyData}, Fl A d x → nds d x ≤ (A + 1) ^ d
  | 0, x, _ => by simp [nds]
  | d + 1, x, h => by
    have hp : 0 < (A + 1) ^ d := Nat.pow_pos (by omega)
    rcases h with ⟨ps, rfl, hl, hp'⟩ | rfl | ⟨i, rfl⟩
    · have h1 : (ps.map (nds d)).sum ≤ (ps.map (nds d)).length * (A + 1) ^ d := sum_le fun y hy => by
        obtain ⟨z, hz, rfl⟩ := List.mem_map.mp hy
        exact nds_le (hp' z hz)
      rw [List.length_map] at h1
      have h2 : ps.length * (A + 1) ^ d ≤ A * (A + 1) ^ d := Nat.mul_le_mul_right _ hl
      have h3 : (A + 1) ^ (d + 1) = A * (A + 1) ^ d + (A + 1) ^ d := by rw [Nat.pow_succ, Nat.mul_comm, Nat.succ_mul]
      show 1 + (ps.map (nds d)).sum ≤ _
      omega
    · simp only [nds]
      rw [Nat.pow_succ]
      exact Nat.le_trans hp (Nat.le_mul_of_pos_right _ (by omega))
    · simp only [nds]
      rw [Nat.pow_succ]
      exact Nat.le_trans hp (Nat.le_mul_of_pos_right _ (by omega))
theorem Fl.up {A : Nat} : ∀ {d : Nat} {x : PyData}, Fl A d x → Fl A (d + 1) x
  | 0, x, h => .inr h.2
  | d + 1, x, h => by
    rcases h with ⟨ps, rfl, hl, hp⟩ | h
    · exact .inl ⟨ps, rfl, hl, fun p hp' => (hp p hp').up⟩
    · exact .inr h
theorem fl_eT {A : Nat} {t : List Nat} (h : t.length ≤ A) : Fl A 1 (eT t) := by
  refine .inl ⟨_, rfl, by simpa using h, fun p hp => ?_⟩
  obtain ⟨k, _, rfl⟩ := List.mem_map.mp hp
  exact ⟨(fun ps e => by cases e), .inr ⟨_, rfl⟩⟩
theorem fl_int {A d : Nat} {i : Int} : Fl A d (.int i) := by
  cases d with
  | zero => exact ⟨(fun ps e => by cases e), .inr ⟨_, rfl⟩⟩
  | succ d => exact .inr (.inr ⟨_, rfl⟩)
theorem fl_none {A d : Nat} : Fl A d .none := by
  cases d with
  | zero => exact ⟨(fun ps e => by cases e), .inl rfl⟩
  | succ d => exact .inr (.inl rfl)
theorem fl_eO {A d : Nat} {o : Option Nat} : Fl A d (eO o) := by
  cases o with
  | none => exact fl_none
  | some k => exact fl_int
theorem fl_eM {m : Mac} (h : m.Ok) : Fl 30 5 (eM m) := by
  have n8 := h.n8
  refine .inl ⟨_, rfl, by simp, fun p hp => ?_⟩
  simp only [List.mem_cons, List.not_mem_nil, or_false] at hp
  rcases hp with rfl | rfl
  · exact fl_int
  refine .inl ⟨_, rfl, by simpa using h.r30, fun p hp => ?_⟩
  obtain ⟨r, hr, rfl⟩ := List.mem_map.mp hp
  have hl := (h.rs r hr).len
  refine .inl ⟨_, rfl, by simp, fun p hp => ?_⟩
  simp only [List.mem_cons, List.not_mem_nil, or_false] at hp
  rcases hp with rfl | rfl
  · exact fl_eO
  refine .inl ⟨_, rfl, by simp; omega, fun p hp => ?_⟩
  obtain ⟨s, hs, rfl⟩ := List.mem_map.mp hp
  cases s with
  | none => exact fl_none
  | some p =>
    refine .inl ⟨_, rfl, by simp, fun p hp => ?_⟩
    simp only [List.mem_cons, List.not_mem_nil, or_false] at hp
    rcases hp with rfl | rfl
    · exact fl_int
    · exact fl_int
def smallT : PyData → Bool
  | .tuple ps => sizeOk ps.length
  | _ => true
end Mp

namespace Lw
open PySem PySem.Spec PyProof.Rows L2 Mp
set_option maxHeartbeats 4000000
def top (i : Nat) : Stmt := (PySem.Challenge.pw_keptlengths_k02_whole_lengths_of_texts).main.body.getD i (.Pass ⟨0, 0, 0, 0⟩)

abbrev t_is_integer : Stmt := top 5
abbrev t_is_between : Stmt := top 6
abbrev t_is_index : Stmt := top 7
abbrev t_is_tuple_of : Stmt := top 8
abbrev t_is_size : Stmt := top 15
abbrev t_raw_is_text : Stmt := top 16
abbrev t_is_step : Stmt := top 17
abbrev t_is_row : Stmt := top 18
abbrev t_is_machine : Stmt := top 19
abbrev t_check_machine : Stmt := top 20
abbrev t_raw_length : Stmt := top 21
abbrev t_check_text : Stmt := top 22
abbrev t_length : Stmt := top 23
abbrev t__law_mixed : Stmt := top 25
abbrev t__law_well : Stmt := top 26
abbrev t__law_filled : Stmt := top 27
abbrev t__law_draw : Stmt := top 28
abbrev t__law_any : Stmt := top 29
abbrev t__law_nodes : Stmt := top 30
abbrev t__law_changed : Stmt := top 31
abbrev t__law_spoilt : Stmt := top 32
abbrev t__law_more : Stmt := top 33
abbrev t__law_step : Stmt := top 34
abbrev t__law_end : Stmt := top 35
abbrev t__law_machine : Stmt := top 36
abbrev t__law_is_int : Stmt := top 37
abbrev t__law_long : Stmt := top 38
abbrev t__law_step_fits : Stmt := top 39
abbrev t__law_row_fits : Stmt := top 40
abbrev t__law_machine_fits : Stmt := top 41
abbrev t__law_text_fits : Stmt := top 42
abbrev t__law_read : Stmt := top 43
abbrev t__law_due : Stmt := top 44
abbrev t__law_text : Stmt := top 45
abbrev t__law_begun_at : Stmt := top 46
abbrev t__law_later : Stmt := top 47
abbrev t__law_told : Stmt := top 48
abbrev t__law_parted_right : Stmt := top 49
abbrev t__law_odd_right : Stmt := top 50
abbrev t_law : Stmt := top 51
def emL : List ((Str × Str) × Bool) := [(("LengthError", "LengthError"), true), (("LengthError", "NoMachine"), false), (("LengthError", "NoText"), false), (("NoMachine", "LengthError"), true), (("NoMachine", "NoMachine"), true), (("NoMachine", "NoText"), false), (("NoText", "LengthError"), true), (("NoText", "NoMachine"), false), (("NoText", "NoText"), true)]
def emT (x y : Str) : Option Bool := emL.lookup (x, y)
structure Nm (K : PySem.W.Frag) (mg : Str → Option Value) : Prop where
  f_all : mg "all" = none
  f_bool : mg "bool" = none
  f_int : mg "int" = none
  f_isinstance : mg "isinstance" = none
  f_len : mg "len" = none
  f_list : mg "list" = none
  f_range : mg "range" = none
  f_str : mg "str" = none
  f_sum : mg "sum" = none
  f_tuple : mg "tuple" = none
  i_MOST_SIZE : ∃ t, mg "MOST_SIZE" = some (.int 8 t)
  i_MOST_STATES : ∃ t, mg "MOST_STATES" = some (.int 30 t)
  i_MOST_MORE : ∃ t, mg "MOST_MORE" = some (.int 60 t)
  i_SIZE : ∃ t, mg "SIZE" = some (.int 0 t)
  i_ROWS : ∃ t, mg "ROWS" = some (.int 1 t)
  d_is_integer : DefAt K mg "is_integer" t_is_integer
  d_is_between : DefAt K mg "is_between" t_is_between
  d_is_index : DefAt K mg "is_index" t_is_index
  d_is_tuple_of : DefAt K mg "is_tuple_of" t_is_tuple_of
  d_is_size : DefAt K mg "is_size" t_is_size
  d_raw_is_text : DefAt K mg "raw_is_text" t_raw_is_text
  d_is_step : DefAt K mg "is_step" t_is_step
  d_is_row : DefAt K mg "is_row" t_is_row
  d_is_machine : DefAt K mg "is_machine" t_is_machine
  d_check_machine : DefAt K mg "check_machine" t_check_machine
  d_raw_length : DefAt K mg "raw_length" t_raw_length
  d_check_text : DefAt K mg "check_text" t_check_text
  d_length : DefAt K mg "length" t_length
  d__law_mixed : DefAt K mg "_law_mixed" t__law_mixed
  d__law_well : DefAt K mg "_law_well" t__law_well
  d__law_filled : DefAt K mg "_law_filled" t__law_filled
  d__law_draw : DefAt K mg "_law_draw" t__law_draw
  d__law_any : DefAt K mg "_law_any" t__law_any
  d__law_nodes : DefAt K mg "_law_nodes" t__law_nodes
  d__law_changed : DefAt K mg "_law_changed" t__law_changed
  d__law_spoilt : DefAt K mg "_law_spoilt" t__law_spoilt
  d__law_more : DefAt K mg "_law_more" t__law_more
  d__law_step : DefAt K mg "_law_step" t__law_step
  d__law_end : DefAt K mg "_law_end" t__law_end
  d__law_machine : DefAt K mg "_law_machine" t__law_machine
  d__law_is_int : DefAt K mg "_law_is_int" t__law_is_int
  d__law_long : DefAt K mg "_law_long" t__law_long
  d__law_step_fits : DefAt K mg "_law_step_fits" t__law_step_fits
  d__law_row_fits : DefAt K mg "_law_row_fits" t__law_row_fits
  d__law_machine_fits : DefAt K mg "_law_machine_fits" t__law_machine_fits
  d__law_text_fits : DefAt K mg "_law_text_fits" t__law_text_fits
  d__law_read : DefAt K mg "_law_read" t__law_read
  d__law_due : DefAt K mg "_law_due" t__law_due
  d__law_text : DefAt K mg "_law_text" t__law_text
  d__law_begun_at : DefAt K mg "_law_begun_at" t__law_begun_at
  d__law_later : DefAt K mg "_law_later" t__law_later
  d__law_told : DefAt K mg "_law_told" t__law_told
  d__law_parted_right : DefAt K mg "_law_parted_right" t__law_parted_right
  d__law_odd_right : DefAt K mg "_law_odd_right" t__law_odd_right
  d_law : DefAt K mg "law" t_law
  x_LengthError : XcAt K mg "LengthError"
  x_NoMachine : XcAt K mg "NoMachine"
  x_NoText : XcAt K mg "NoText"
  e_LengthError : ExAt K mg emT "LengthError"
  e_NoMachine : ExAt K mg emT "NoMachine"
  e_NoText : ExAt K mg emT "NoText"
section
variable {P : Program} {w : World} {K : PySem.W.Frag} {mg : Str → Option Value} {base : Heap}

/-! is_integer -/
theorem sc_is_integer : FnScope ["thing"] ["thing"] (defScope t_is_integer) := ⟨rfl, rfl, rfl, by decide +kernel, rfl, by decide +kernel, by decide +kernel⟩
theorem bn_is_integer : BindN "is_integer" t_is_integer ["thing"] := fun _ _ _ _ _ _ us hl => match us, hl with | [_], _ => rfl
noncomputable def b_is_integer : MS := (sRet (mAndV (mIsi "int" (mVar 0)) (mNotV (mIsi "bool" (mVar 0)))))
theorem raw_is_integer (N : Nm K mg) : DefOk P w K mg base "is_integer" 1 1 (fnM 1 1 b_is_integer) := def_mk N.d_is_integer sc_is_integer bn_is_integer rfl rfl fun f cdv A outer s H E hr nd tk hp => (ss_one (s_ret (e_and (e_isi (T := "int") (by decide) rfl N.f_isinstance rfl N.f_int bt_int (e_var (i := 0))) (e_one (e_not (e_isi (T := "bool") (by decide) rfl N.f_isinstance rfl N.f_bool bt_bool (e_var (i := 0))))))))
def M_is_integer : List D → S → R D := fun ds s => match ds with
  | [.p x] => .ok (.p (.bool (isInteger x))) s
  | _ => .bad
theorem ok_is_integer (N : Nm K mg) : DefOk P w K mg base "is_integer" 1 1 M_is_integer := (raw_is_integer N).alone.eqv fun ds s => by
  unfold M_is_integer
  split
  · rename_i x
    left
    cases x <;> rfl
  · exact .inr rfl

/-! is_between -/
theorem sc_is_between : FnScope ["thing", "least", "most"] ["thing", "least", "most"] (defScope t_is_between) := ⟨rfl, rfl, rfl, by decide +kernel, rfl, by decide +kernel, by decide +kernel⟩
theorem bn_is_between : BindN "is_between" t_is_between ["thing", "least", "most"] := fun _ _ _ _ _ _ us hl => match us, hl with | [_, _, _], _ => rfl
noncomputable def b_is_between : MS := (sRet (mAndV (mCall M_is_integer (mCons (mVar 0) mNil)) (mChain (pp2 iLe) (pp2 iLe) (mVar 1) (mVar 0) (mVar 2))))
theorem raw_is_between (N : Nm K mg) : DefOk P w K mg base "is_between" 2 3 (fnM 3 3 b_is_between) := def_mk N.d_is_between sc_is_between bn_is_between rfl rfl fun f cdv A outer s H E hr nd tk hp => (ss_one (s_ret (e_and (e_callS (ok_is_integer N) hr (by decide) tk (a_cons (e_var (i := 0)) a_nil) (argN_cons argN_nil)) (e_one (e_chain o_leP o_leP (e_var (i := 1)) (e_var (i := 0)) (e_var (i := 2)))))))
def M_is_between : List D → S → R D := fun ds s => match ds with
  | [.p x, .p (.int a), .p (.int b)] => .ok (.p (.bool (isBetween x a b))) s
  | _ => .bad
theorem ok_is_between (N : Nm K mg) : DefOk P w K mg base "is_between" 2 3 M_is_between := (raw_is_between N).alone.eqv fun ds s => by
  unfold M_is_between
  split
  · rename_i x a b
    left
    cases x <;> try rfl
    rename_i i
    simp only [b_is_between, pureRun, onlyP, fnM, mVar, mK, mBin, mUn, mTru, mTest, mAnd, mOr, mNot, mAndV, mOrV, mNotV, mIf, mNil, mCons, mTup, mLst, mLstF, mCall, mChain, mIsi, fIsi, tyD, tyP, mSlice, oNo, oSome, mSeq, srcOf, mRange1, mRange2, sNext, sSeq, sIf, sRet, sRetN, sExpr, sSet, sAsg, sAug, sFor, sRaise, gSet, gMore, gNone, Mp.gTup, mMeth, fAppend, fLen, fInt, truth, ptruth, asB, pp1, pp2, ret1, dIs, isN, allP, frzD, mFrz, Mp.R.bind, R.thn, RS.seq, List.map_cons, List.map_nil, List.cons_append, List.nil_append, List.length_cons, List.length_nil, List.getElem?_cons_zero, List.getElem?_cons_succ, List.getElem?_nil, List.set_cons_zero, List.set_cons_succ, if_true, ite_true, Nat.reduceAdd, Nat.reduceSub, List.replicate, Bool.false_eq_true, if_false, Bool.not_true, Bool.not_false, M_is_integer, isInteger, isBetween, iLe, iCmp]
    by_cases h : a ≤ i <;> simp [h]
  · exact .inr rfl

/-! is_index -/
theorem sc_is_index : FnScope ["thing", "many"] ["thing", "many"] (defScope t_is_index) := ⟨rfl, rfl, rfl, by decide +kernel, rfl, by decide +kernel, by decide +kernel⟩
theorem bn_is_index : BindN "is_index" t_is_index ["thing", "many"] := fun _ _ _ _ _ _ us hl => match us, hl with | [_, _], _ => rfl
noncomputable def b_is_index : MS := (sRet (mCall M_is_between (mCons (mVar 0) (mCons (mK (.int 0)) (mCons (mBin (pp2 iSub) (mVar 1) (mK (.int 1))) mNil)))))
theorem raw_is_index (N : Nm K mg) : DefOk P w K mg base "is_index" 3 2 (fnM 2 2 b_is_index) := def_mk N.d_is_index sc_is_index bn_is_index rfl rfl fun f cdv A outer s H E hr nd tk hp => (ss_one (s_ret (e_callS (ok_is_between N) hr (by decide) tk (a_cons (e_var (i := 0)) (a_cons e_int (a_cons (e_bin o_sub (e_var (i := 1)) e_int) a_nil))) (argN_cons (argN_cons (argN_cons argN_nil))))))
def M_is_index : List D → S → R D := fun ds s => match ds with
  | [.p x, .p (.int n)] => .ok (.p (.bool (isIndex x n))) s
  | _ => .bad
theorem ok_is_index (N : Nm K mg) : DefOk P w K mg base "is_index" 3 2 M_is_index := (raw_is_index N).alone.eqv fun ds s => by
  unfold M_is_index
  split
  · left; rfl
  · exact .inr rfl

/-! is_tuple_of -/
theorem sc_is_tuple_of : FnScope ["thing", "many"] ["thing", "many"] (defScope t_is_tuple_of) := ⟨rfl, rfl, rfl, by decide +kernel, rfl, by decide +kernel, by decide +kernel⟩
theorem bn_is_tuple_of : BindN "is_tuple_of" t_is_tuple_of ["thing", "many"] := fun _ _ _ _ _ _ us hl => match us, hl with | [_, _], _ => rfl
noncomputable def b_is_tuple_of : MS := (sRet (mAndV (mIsi "tuple" (mVar 0)) (mBin (pp2 iEq) (mCall fLen (mCons (mVar 0) mNil)) (mVar 1))))
theorem raw_is_tuple_of (N : Nm K mg) : DefOk P w K mg base "is_tuple_of" 1 2 (fnM 2 2 b_is_tuple_of) := def_mk N.d_is_tuple_of sc_is_tuple_of bn_is_tuple_of rfl rfl fun f cdv A outer s H E hr nd tk hp => (ss_one (s_ret (e_and (e_isi (T := "tuple") (by decide) rfl N.f_isinstance rfl N.f_tuple bt_tuple (e_var (i := 0))) (e_one (e_cmp (o_eq hr.units) (e_bi b_len rfl N.f_len bt_len (a_cons (e_var (i := 0)) a_nil)) (e_var (i := 1)) (nomark _))))))
def M_is_tuple_of : List D → S → R D := fun ds s => match ds with
  | [.p x, .p (.int n)] => .ok (.p (.bool (isTupleOf x n))) s
  | _ => .bad
theorem ok_is_tuple_of (N : Nm K mg) : DefOk P w K mg base "is_tuple_of" 1 2 M_is_tuple_of := (raw_is_tuple_of N).alone.eqv fun ds s => by
  unfold M_is_tuple_of
  split
  · rename_i x n
    left
    cases x <;> rfl
  · exact .inr rfl

/-! is_size -/
theorem sc_is_size : FnScope ["thing"] ["thing"] (defScope t_is_size) := ⟨rfl, rfl, rfl, by decide +kernel, rfl, by decide +kernel, by decide +kernel⟩
theorem bn_is_size : BindN "is_size" t_is_size ["thing"] := fun _ _ _ _ _ _ us hl => match us, hl with | [_], _ => rfl
noncomputable def b_is_size : MS := (sRet (mCall M_is_between (mCons (mVar 0) (mCons (mK (.int 1)) (mCons (mK (.int 8)) mNil)))))
theorem raw_is_size (N : Nm K mg) : DefOk P w K mg base "is_size" 3 1 (fnM 1 1 b_is_size) := def_mk N.d_is_size sc_is_size bn_is_size rfl rfl fun f cdv A outer s H E hr nd tk hp => (ss_one (s_ret (e_callS (ok_is_between N) hr (by decide) tk (a_cons (e_var (i := 0)) (a_cons e_int (a_cons (e_gint N.i_MOST_SIZE) a_nil))) (argN_cons (argN_cons (argN_cons argN_nil))))))
def M_is_size : List D → S → R D := fun ds s => match ds with
  | [.p x] => .ok (.p (.bool (isBetween x 1 8))) s
  | _ => .bad
theorem ok_is_size (N : Nm K mg) : DefOk P w K mg base "is_size" 3 1 M_is_size := (raw_is_size N).alone.eqv fun ds s => by
  unfold M_is_size
  split
  · left; rfl
  · exact .inr rfl

/-! raw_is_text -/
theorem sc_raw_is_text : FnScope ["size", "thing", "letter"] ["size", "thing"] (defScope t_raw_is_text) := ⟨rfl, rfl, rfl, by decide +kernel, rfl, by decide +kernel, by decide +kernel⟩
theorem bn_raw_is_text : BindN "raw_is_text" t_raw_is_text ["size", "thing"] := fun _ _ _ _ _ _ us hl => match us, hl with | [_, _], _ => rfl
noncomputable def b_raw_is_text : MS := (sRet (mAndV (mIsi "tuple" (mVar 1)) (mCall fAll (mCons (mLc (mSeq (mVar 1)) [2] (gSet 2) mYes (mCall M_is_index (mCons (mVar 2) (mCons (mVar 0) mNil))) kFrz) mNil))))
theorem raw_raw_is_text (N : Nm K mg) : DefOk P w K mg base "raw_is_text" 4 2 (fnM 2 3 b_raw_is_text) := def_mk N.d_raw_is_text sc_raw_is_text bn_raw_is_text rfl rfl fun f cdv A outer s H E hr nd tk hp => (ss_one (s_ret (e_and (e_isi (T := "tuple") (by decide) rfl N.f_isinstance rfl N.f_tuple bt_tuple (e_var (i := 1))) (e_one (e_bi (b_all rfl) rfl N.f_all bt_all (a_cons (e_lcF (own := [("letter", 2)]) rfl nd (i_seq (e_var (i := 1))) (blkOk_by (N := ["size", "thing", "letter"]) (sc := defScope t_raw_is_text) (own := [("letter", 2)]) (by decide +kernel)) (tg_name (i := 2) (by decide)) (fun _ _ _ _ _ => pg_name (i := 2) nd rfl (by first | exact Or.inl rfl | exact Or.inr rfl)) (fun _ _ _ _ _ => c_no) (fun _ _ _ _ _ => (e_callS (ok_is_index N) hr (by decide) takes0 (a_cons (e_var (i := 2)) (a_cons (e_var (i := 0)) a_nil)) (argN_cons (argN_cons argN_nil))))) a_nil))))))
def M_raw_is_text : List D → S → R D := fun ds s => match ds with
  | [.p (.int n), .p x] => if smallT x then .ok (.p (.bool (isText n x))) s else .bad
  | _ => .bad
theorem ok_raw_is_text (N : Nm K mg) : DefOk P w K mg base "raw_is_text" 4 2 M_raw_is_text := (raw_raw_is_text N).alone.eqv fun ds s => by
  unfold M_raw_is_text
  split
  · rename_i n x
    split
    · rename_i hz
      left
      cases x <;> try rfl
      rename_i ps
      have e0 : ∀ env w, lcL (Src.fix (ps.map D.p)).ok (gSet 2) mYes (mCall M_is_index (mCons (mVar 2) (mCons (mVar 0) mNil))) [some (.p (.int n)), env, none] (ps.map D.p) ⟨[], w⟩ = .ok (ps.map fun x => .p (.bool (isIndex x n))) ⟨[], w⟩ := fun env w => lc_map trivial fun x _ => by simp [pureRun, onlyP, fnM, mVar, mK, mBin, mUn, mTru, mTest, mAnd, mOr, mNot, mAndV, mOrV, mNotV, mIf, mNil, mCons, mTup, mLst, mLstF, mCall, mChain, mIsi, fIsi, tyD, tyP, mSlice, oNo, oSome, mSeq, srcOf, mRange1, mRange2, sNext, sSeq, sIf, sRet, sRetN, sExpr, sSet, sAsg, sAug, sFor, sRaise, gSet, gMore, gNone, Mp.gTup, mMeth, fAppend, fLen, fInt, truth, ptruth, asB, pp1, pp2, ret1, dIs, isN, allP, frzD, mFrz, Mp.R.bind, R.thn, RS.seq, List.map_cons, List.map_nil, List.cons_append, List.nil_append, List.length_cons, List.length_nil, List.getElem?_cons_zero, List.getElem?_cons_succ, List.getElem?_nil, List.set_cons_zero, List.set_cons_succ, if_true, ite_true, Nat.reduceAdd, Nat.reduceSub, List.replicate, Bool.false_eq_true, if_false, Bool.not_true, Bool.not_false, M_is_index]
      have hz' : sizeOk ps.length = true := hz
      simp [b_raw_is_text, pureRun, onlyP, fnM, mVar, mK, mBin, mUn, mTru, mTest, mAnd, mOr, mNot, mAndV, mOrV, mNotV, mIf, mNil, mCons, mTup, mLst, mLstF, mCall, mChain, mIsi, fIsi, tyD, tyP, mSlice, oNo, oSome, mSeq, srcOf, mRange1, mRange2, sNext, sSeq, sIf, sRet, sRetN, sExpr, sSet, sAsg, sAug, sFor, sRaise, gSet, gMore, gNone, Mp.gTup, mMeth, fAppend, fLen, fInt, truth, ptruth, asB, pp1, pp2, ret1, dIs, isN, allP, frzD, mFrz, Mp.R.bind, R.thn, RS.seq, List.map_cons, List.map_nil, List.cons_append, List.nil_append, List.length_cons, List.length_nil, List.getElem?_cons_zero, List.getElem?_cons_succ, List.getElem?_nil, List.set_cons_zero, List.set_cons_succ, if_true, ite_true, Nat.reduceAdd, Nat.reduceSub, List.replicate, Bool.false_eq_true, if_false, Bool.not_true, Bool.not_false, mp_ft, mp_tf, isTy, beq_self_eq_true, isi0, isi1, isi2, isi3, isi4, isi5, isi6, isi7, isi8, isi9, isi10, isi11, isi12, isi13, isi14, isi15, isi16, isi17, isi18, isi19, isi20, isi21, isi22, isi23, isi24, isi25, isi26, isi27, isi28, isi29, isi30, isi31, isi32, isi33, isi34, isi35, isi36, isi37, isi38, isi39, isi40, isi41, onlyF, dIx_tup, dIx_lst, dIx_ref, ixAt_0, ixAt_1, ixAt_2, ixAt_3, iEq_int, iNe_int, dAdd, iAdd, iSub, iNeg, iCmp, iLe, iLt, iGe, iGt, dMul, iMulT, iMul, iMod, iDiv, gIx, setIx, decide_true, decide_false, decide_eq_true_eq, Bool.not_eq_true, List.length_map, mLc, wipeE, Src.items, hz', e0, kFrz, fAll, lstP, isText, -List.map_map, allP_map, allB_map]
    · exact .inr rfl
  · exact .inr rfl

/-! is_step -/
theorem sc_is_step : FnScope ["thing", "states"] ["thing", "states"] (defScope t_is_step) := ⟨rfl, rfl, rfl, by decide +kernel, rfl, by decide +kernel, by decide +kernel⟩
theorem bn_is_step : BindN "is_step" t_is_step ["thing", "states"] := fun _ _ _ _ _ _ us hl => match us, hl with | [_, _], _ => rfl
noncomputable def b_is_step : MS := (sSeq (sIf (mTest (mBin (dIs true) (mVar 0) (mK .none))) (sRet (mK (.bool true))) sNext) (sRet (mAndV (mCall M_is_tuple_of (mCons (mVar 0) (mCons (mK (.int 2)) mNil))) (mAndV (mCall M_is_between (mCons (mBin dIx (mVar 0) (mK (.int 0))) (mCons (mK (.int 0)) (mCons (mK (.int 60)) mNil)))) (mCall M_is_index (mCons (mBin dIx (mVar 0) (mK (.int 1))) (mCons (mVar 1) mNil)))))))
theorem raw_is_step (N : Nm K mg) : DefOk P w K mg base "is_step" 4 2 (fnM 2 2 b_is_step) := def_mk N.d_is_step sc_is_step bn_is_step rfl rfl fun f cdv A outer s H E hr nd tk hp => (ss_cons (s_if (t_cmp o_is (e_var (i := 0)) e_none (nomark _)) (ss_one (s_ret e_bool)) ss_nil) (ss_one (s_ret (e_and (e_callS (ok_is_tuple_of N) hr (by decide) tk (a_cons (e_var (i := 0)) (a_cons e_int a_nil)) (argN_cons (argN_cons argN_nil))) (e_and (e_callS (ok_is_between N) hr (by decide) tk (a_cons (e_ix (e_var (i := 0)) e_int) (a_cons e_int (a_cons (e_gint N.i_MOST_MORE) a_nil))) (argN_cons (argN_cons (argN_cons argN_nil)))) (e_one (e_callS (ok_is_index N) hr (by decide) tk (a_cons (e_ix (e_var (i := 0)) e_int) (a_cons (e_var (i := 1)) a_nil)) (argN_cons (argN_cons argN_nil)))))))))
def M_is_step : List D → S → R D := fun ds s => match ds with
  | [.p x, .p (.int q)] => .ok (.p (.bool (isStep x q))) s
  | _ => .bad
theorem ok_is_step (N : Nm K mg) : DefOk P w K mg base "is_step" 4 2 M_is_step := (raw_is_step N).alone.eqv fun ds s => by
  unfold M_is_step
  split
  · rename_i x q
    left
    cases x <;> try rfl
    rename_i ps
    rcases ps with _ | ⟨a, _ | ⟨b, _ | ⟨c, r⟩⟩⟩
    · rfl
    · rfl
    · cases h : isBetween a 0 60 <;> simp [b_is_step, pureRun, onlyP, fnM, mVar, mK, mBin, mUn, mTru, mTest, mAnd, mOr, mNot, mAndV, mOrV, mNotV, mIf, mNil, mCons, mTup, mLst, mLstF, mCall, mChain, mIsi, fIsi, tyD, tyP, mSlice, oNo, oSome, mSeq, srcOf, mRange1, mRange2, sNext, sSeq, sIf, sRet, sRetN, sExpr, sSet, sAsg, sAug, sFor, sRaise, gSet, gMore, gNone, Mp.gTup, mMeth, fAppend, fLen, fInt, truth, ptruth, asB, pp1, pp2, ret1, dIs, isN, allP, frzD, mFrz, Mp.R.bind, R.thn, RS.seq, List.map_cons, List.map_nil, List.cons_append, List.nil_append, List.length_cons, List.length_nil, List.getElem?_cons_zero, List.getElem?_cons_succ, List.getElem?_nil, List.set_cons_zero, List.set_cons_succ, if_true, ite_true, Nat.reduceAdd, Nat.reduceSub, List.replicate, Bool.false_eq_true, if_false, Bool.not_true, Bool.not_false, mp_ft, mp_tf, isTy, beq_self_eq_true, isi0, isi1, isi2, isi3, isi4, isi5, isi6, isi7, isi8, isi9, isi10, isi11, isi12, isi13, isi14, isi15, isi16, isi17, isi18, isi19, isi20, isi21, isi22, isi23, isi24, isi25, isi26, isi27, isi28, isi29, isi30, isi31, isi32, isi33, isi34, isi35, isi36, isi37, isi38, isi39, isi40, isi41, onlyF, dIx_tup, dIx_lst, dIx_ref, ixAt_0, ixAt_1, ixAt_2, ixAt_3, iEq_int, iNe_int, dAdd, iAdd, iSub, iNeg, iCmp, iLe, iLt, iGe, iGt, dMul, iMulT, iMul, iMod, iDiv, gIx, setIx, decide_true, decide_false, decide_eq_true_eq, Bool.not_eq_true, List.length_map, isStep, isTupleOf, M_is_tuple_of, M_is_between, M_is_index, h]
    · have : ¬ ((r.length : Int) + 1 + 1 + 1 = 2) := by omega
      simp [b_is_step, pureRun, onlyP, fnM, mVar, mK, mBin, mUn, mTru, mTest, mAnd, mOr, mNot, mAndV, mOrV, mNotV, mIf, mNil, mCons, mTup, mLst, mLstF, mCall, mChain, mIsi, fIsi, tyD, tyP, mSlice, oNo, oSome, mSeq, srcOf, mRange1, mRange2, sNext, sSeq, sIf, sRet, sRetN, sExpr, sSet, sAsg, sAug, sFor, sRaise, gSet, gMore, gNone, Mp.gTup, mMeth, fAppend, fLen, fInt, truth, ptruth, asB, pp1, pp2, ret1, dIs, isN, allP, frzD, mFrz, Mp.R.bind, R.thn, RS.seq, List.map_cons, List.map_nil, List.cons_append, List.nil_append, List.length_cons, List.length_nil, List.getElem?_cons_zero, List.getElem?_cons_succ, List.getElem?_nil, List.set_cons_zero, List.set_cons_succ, if_true, ite_true, Nat.reduceAdd, Nat.reduceSub, List.replicate, Bool.false_eq_true, if_false, Bool.not_true, Bool.not_false, mp_ft, mp_tf, isTy, beq_self_eq_true, isi0, isi1, isi2, isi3, isi4, isi5, isi6, isi7, isi8, isi9, isi10, isi11, isi12, isi13, isi14, isi15, isi16, isi17, isi18, isi19, isi20, isi21, isi22, isi23, isi24, isi25, isi26, isi27, isi28, isi29, isi30, isi31, isi32, isi33, isi34, isi35, isi36, isi37, isi38, isi39, isi40, isi41, onlyF, dIx_tup, dIx_lst, dIx_ref, ixAt_0, ixAt_1, ixAt_2, ixAt_3, iEq_int, iNe_int, dAdd, iAdd, iSub, iNeg, iCmp, iLe, iLt, iGe, iGt, dMul, iMulT, iMul, iMod, iDiv, gIx, setIx, decide_true, decide_false, decide_eq_true_eq, Bool.not_eq_true, List.length_map, isStep, isTupleOf, M_is_tuple_of, this]
  · exact .inr rfl

/-! is_row -/
theorem sc_is_row : FnScope ["thing", "size", "states", "step"] ["thing", "size", "states"] (defScope t_is_row) := ⟨rfl, rfl, rfl, by decide +kernel, rfl, by decide +kernel, by decide +kernel⟩
theorem bn_is_row : BindN "is_row" t_is_row ["thing", "size", "states"] := fun _ _ _ _ _ _ us hl => match us, hl with | [_, _, _], _ => rfl
noncomputable def b_is_row : MS := (sSeq (sIf (mOr (mNot (mTru (mCall M_is_tuple_of (mCons (mVar 0) (mCons (mK (.int 2)) mNil))))) (mNot (mTru (mCall M_is_tuple_of (mCons (mBin dIx (mVar 0) (mK (.int 1))) (mCons (mVar 1) mNil)))))) (sRet (mK (.bool false))) sNext) (sSeq (sIf (mAnd (mTest (mBin (dIs false) (mBin dIx (mVar 0) (mK (.int 0))) (mK .none))) (mNot (mTru (mCall M_is_between (mCons (mBin dIx (mVar 0) (mK (.int 0))) (mCons (mK (.int 1)) (mCons (mK (.int 60)) mNil))))))) (sRet (mK (.bool false))) sNext) (sRet (mCall fAll (mCons (mLc (mSeq (mBin dIx (mVar 0) (mK (.int 1)))) [3] (gSet 3) mYes (mCall M_is_step (mCons (mVar 3) (mCons (mVar 2) mNil))) kFrz) mNil)))))
theorem raw_is_row (N : Nm K mg) : DefOk P w K mg base "is_row" 5 3 (fnM 3 4 b_is_row) := def_mk N.d_is_row sc_is_row bn_is_row rfl rfl fun f cdv A outer s H E hr nd tk hp => (ss_cons (s_if (t_w (w_or (t_not (t_tru (e_callS (ok_is_tuple_of N) hr (by decide) tk (a_cons (e_var (i := 0)) (a_cons e_int a_nil)) (argN_cons (argN_cons argN_nil))))) (w_or1 (t_not (t_tru (e_callS (ok_is_tuple_of N) hr (by decide) tk (a_cons (e_ix (e_var (i := 0)) e_int) (a_cons (e_var (i := 1)) a_nil)) (argN_cons (argN_cons argN_nil)))))))) (ss_one (s_ret e_bool)) ss_nil) (ss_cons (s_if (t_w (w_and (t_cmp o_isnot (e_ix (e_var (i := 0)) e_int) e_none (nomark _)) (w_and1 (t_not (t_tru (e_callS (ok_is_between N) hr (by decide) tk (a_cons (e_ix (e_var (i := 0)) e_int) (a_cons e_int (a_cons (e_gint N.i_MOST_MORE) a_nil))) (argN_cons (argN_cons (argN_cons argN_nil))))))))) (ss_one (s_ret e_bool)) ss_nil) (ss_one (s_ret (e_bi (b_all rfl) rfl N.f_all bt_all (a_cons (e_lcF (own := [("step", 3)]) rfl nd (i_seq (e_ix (e_var (i := 0)) e_int)) (blkOk_by (N := ["thing", "size", "states", "step"]) (sc := defScope t_is_row) (own := [("step", 3)]) (by decide +kernel)) (tg_name (i := 3) (by decide)) (fun _ _ _ _ _ => pg_name (i := 3) nd rfl (by first | exact Or.inl rfl | exact Or.inr rfl)) (fun _ _ _ _ _ => c_no) (fun _ _ _ _ _ => (e_callS (ok_is_step N) hr (by decide) takes0 (a_cons (e_var (i := 3)) (a_cons (e_var (i := 2)) a_nil)) (argN_cons (argN_cons argN_nil))))) a_nil))))))
def M_is_row : List D → S → R D := fun ds s => match ds with
  | [.p x, .p (.int n), .p (.int q)] => if n ≤ 8 then .ok (.p (.bool (isRow x n q))) s else .bad
  | _ => .bad
theorem ok_is_row (N : Nm K mg) : DefOk P w K mg base "is_row" 5 3 M_is_row := (raw_is_row N).alone.eqv fun ds s => by
  unfold M_is_row
  split
  · rename_i x n q
    split
    · rename_i hn
      left
      cases x <;> try rfl
      rename_i ps
      rcases ps with _ | ⟨a, _ | ⟨b, _ | ⟨c, r⟩⟩⟩
      · rfl
      · rfl
      · cases b <;> try (simp [b_is_row, pureRun, onlyP, fnM, mVar, mK, mBin, mUn, mTru, mTest, mAnd, mOr, mNot, mAndV, mOrV, mNotV, mIf, mNil, mCons, mTup, mLst, mLstF, mCall, mChain, mIsi, fIsi, tyD, tyP, mSlice, oNo, oSome, mSeq, srcOf, mRange1, mRange2, sNext, sSeq, sIf, sRet, sRetN, sExpr, sSet, sAsg, sAug, sFor, sRaise, gSet, gMore, gNone, Mp.gTup, mMeth, fAppend, fLen, fInt, truth, ptruth, asB, pp1, pp2, ret1, dIs, isN, allP, frzD, mFrz, Mp.R.bind, R.thn, RS.seq, List.map_cons, List.map_nil, List.cons_append, List.nil_append, List.length_cons, List.length_nil, List.getElem?_cons_zero, List.getElem?_cons_succ, List.getElem?_nil, List.set_cons_zero, List.set_cons_succ, if_true, ite_true, Nat.reduceAdd, Nat.reduceSub, List.replicate, Bool.false_eq_true, if_false, Bool.not_true, Bool.not_false, mp_ft, mp_tf, isTy, beq_self_eq_true, isi0, isi1, isi2, isi3, isi4, isi5, isi6, isi7, isi8, isi9, isi10, isi11, isi12, isi13, isi14, isi15, isi16, isi17, isi18, isi19, isi20, isi21, isi22, isi23, isi24, isi25, isi26, isi27, isi28, isi29, isi30, isi31, isi32, isi33, isi34, isi35, isi36, isi37, isi38, isi39, isi40, isi41, onlyF, dIx_tup, dIx_lst, dIx_ref, ixAt_0, ixAt_1, ixAt_2, ixAt_3, iEq_int, iNe_int, dAdd, iAdd, iSub, iNeg, iCmp, iLe, iLt, iGe, iGt, dMul, iMulT, iMul, iMod, iDiv, gIx, setIx, decide_true, decide_false, decide_eq_true_eq, Bool.not_eq_true, List.length_map, isRow, isTupleOf, M_is_tuple_of]; done)
        rename_i ss
        by_cases hl : (ss.length : Int) = n
        · have hz : sizeOk ss.length = true := sizeOk_of (by omega)
          have e0 : ∀ e1 e2 w, lcL (Src.fix (ss.map D.p)).ok (gSet 3) mYes (mCall M_is_step (mCons (mVar 3) (mCons (mVar 2) mNil))) [e1, e2, some (.p (.int q)), none] (ss.map D.p) ⟨[], w⟩ = .ok (ss.map fun x => .p (.bool (isStep x q))) ⟨[], w⟩ := fun e1 e2 w => lc_map trivial fun x _ => by simp [pureRun, onlyP, fnM, mVar, mK, mBin, mUn, mTru, mTest, mAnd, mOr, mNot, mAndV, mOrV, mNotV, mIf, mNil, mCons, mTup, mLst, mLstF, mCall, mChain, mIsi, fIsi, tyD, tyP, mSlice, oNo, oSome, mSeq, srcOf, mRange1, mRange2, sNext, sSeq, sIf, sRet, sRetN, sExpr, sSet, sAsg, sAug, sFor, sRaise, gSet, gMore, gNone, Mp.gTup, mMeth, fAppend, fLen, fInt, truth, ptruth, asB, pp1, pp2, ret1, dIs, isN, allP, frzD, mFrz, Mp.R.bind, R.thn, RS.seq, List.map_cons, List.map_nil, List.cons_append, List.nil_append, List.length_cons, List.length_nil, List.getElem?_cons_zero, List.getElem?_cons_succ, List.getElem?_nil, List.set_cons_zero, List.set_cons_succ, if_true, ite_true, Nat.reduceAdd, Nat.reduceSub, List.replicate, Bool.false_eq_true, if_false, Bool.not_true, Bool.not_false, M_is_step]
          cases a <;> simp [b_is_row, pureRun, onlyP, fnM, mVar, mK, mBin, mUn, mTru, mTest, mAnd, mOr, mNot, mAndV, mOrV, mNotV, mIf, mNil, mCons, mTup, mLst, mLstF, mCall, mChain, mIsi, fIsi, tyD, tyP, mSlice, oNo, oSome, mSeq, srcOf, mRange1, mRange2, sNext, sSeq, sIf, sRet, sRetN, sExpr, sSet, sAsg, sAug, sFor, sRaise, gSet, gMore, gNone, Mp.gTup, mMeth, fAppend, fLen, fInt, truth, ptruth, asB, pp1, pp2, ret1, dIs, isN, allP, frzD, mFrz, Mp.R.bind, R.thn, RS.seq, List.map_cons, List.map_nil, List.cons_append, List.nil_append, List.length_cons, List.length_nil, List.getElem?_cons_zero, List.getElem?_cons_succ, List.getElem?_nil, List.set_cons_zero, List.set_cons_succ, if_true, ite_true, Nat.reduceAdd, Nat.reduceSub, List.replicate, Bool.false_eq_true, if_false, Bool.not_true, Bool.not_false, mp_ft, mp_tf, isTy, beq_self_eq_true, isi0, isi1, isi2, isi3, isi4, isi5, isi6, isi7, isi8, isi9, isi10, isi11, isi12, isi13, isi14, isi15, isi16, isi17, isi18, isi19, isi20, isi21, isi22, isi23, isi24, isi25, isi26, isi27, isi28, isi29, isi30, isi31, isi32, isi33, isi34, isi35, isi36, isi37, isi38, isi39, isi40, isi41, onlyF, dIx_tup, dIx_lst, dIx_ref, ixAt_0, ixAt_1, ixAt_2, ixAt_3, iEq_int, iNe_int, dAdd, iAdd, iSub, iNeg, iCmp, iLe, iLt, iGe, iGt, dMul, iMulT, iMul, iMod, iDiv, gIx, setIx, decide_true, decide_false, decide_eq_true_eq, Bool.not_eq_true, List.length_map, isRow, isTupleOf, M_is_tuple_of, hl, isFin, isBetween, M_is_between, mLc, wipeE, Src.items, hz, e0, kFrz, fAll, lstP, -List.map_map, allP_map, allB_map]
          rename_i i
          by_cases h : i < 1 ∨ 60 < i
          · have : ¬ (1 ≤ i ∧ i ≤ 60) := by omega
            simp [h]
            omega
          · have h1 : 1 ≤ i := by omega
            have h2 : i ≤ 60 := by omega
            simp [h, h1, h2, pureRun, onlyP, fnM, mVar, mK, mBin, mUn, mTru, mTest, mAnd, mOr, mNot, mAndV, mOrV, mNotV, mIf, mNil, mCons, mTup, mLst, mLstF, mCall, mChain, mIsi, fIsi, tyD, tyP, mSlice, oNo, oSome, mSeq, srcOf, mRange1, mRange2, sNext, sSeq, sIf, sRet, sRetN, sExpr, sSet, sAsg, sAug, sFor, sRaise, gSet, gMore, gNone, Mp.gTup, mMeth, fAppend, fLen, fInt, truth, ptruth, asB, pp1, pp2, ret1, dIs, isN, allP, frzD, mFrz, Mp.R.bind, R.thn, RS.seq, List.map_cons, List.map_nil, List.cons_append, List.nil_append, List.length_cons, List.length_nil, List.getElem?_cons_zero, List.getElem?_cons_succ, List.getElem?_nil, List.set_cons_zero, List.set_cons_succ, if_true, ite_true, Nat.reduceAdd, Nat.reduceSub, List.replicate, Bool.false_eq_true, if_false, Bool.not_true, Bool.not_false, mp_ft, mp_tf, isTy, beq_self_eq_true, isi0, isi1, isi2, isi3, isi4, isi5, isi6, isi7, isi8, isi9, isi10, isi11, isi12, isi13, isi14, isi15, isi16, isi17, isi18, isi19, isi20, isi21, isi22, isi23, isi24, isi25, isi26, isi27, isi28, isi29, isi30, isi31, isi32, isi33, isi34, isi35, isi36, isi37, isi38, isi39, isi40, isi41, onlyF, dIx_tup, dIx_lst, dIx_ref, ixAt_0, ixAt_1, ixAt_2, ixAt_3, iEq_int, iNe_int, dAdd, iAdd, iSub, iNeg, iCmp, iLe, iLt, iGe, iGt, dMul, iMulT, iMul, iMod, iDiv, gIx, setIx, decide_true, decide_false, decide_eq_true_eq, Bool.not_eq_true, List.length_map, mLc, wipeE, Src.items, hz, e0, kFrz, fAll, lstP, -List.map_map, allP_map, allB_map]
        · simp [b_is_row, pureRun, onlyP, fnM, mVar, mK, mBin, mUn, mTru, mTest, mAnd, mOr, mNot, mAndV, mOrV, mNotV, mIf, mNil, mCons, mTup, mLst, mLstF, mCall, mChain, mIsi, fIsi, tyD, tyP, mSlice, oNo, oSome, mSeq, srcOf, mRange1, mRange2, sNext, sSeq, sIf, sRet, sRetN, sExpr, sSet, sAsg, sAug, sFor, sRaise, gSet, gMore, gNone, Mp.gTup, mMeth, fAppend, fLen, fInt, truth, ptruth, asB, pp1, pp2, ret1, dIs, isN, allP, frzD, mFrz, Mp.R.bind, R.thn, RS.seq, List.map_cons, List.map_nil, List.cons_append, List.nil_append, List.length_cons, List.length_nil, List.getElem?_cons_zero, List.getElem?_cons_succ, List.getElem?_nil, List.set_cons_zero, List.set_cons_succ, if_true, ite_true, Nat.reduceAdd, Nat.reduceSub, List.replicate, Bool.false_eq_true, if_false, Bool.not_true, Bool.not_false, mp_ft, mp_tf, isTy, beq_self_eq_true, isi0, isi1, isi2, isi3, isi4, isi5, isi6, isi7, isi8, isi9, isi10, isi11, isi12, isi13, isi14, isi15, isi16, isi17, isi18, isi19, isi20, isi21, isi22, isi23, isi24, isi25, isi26, isi27, isi28, isi29, isi30, isi31, isi32, isi33, isi34, isi35, isi36, isi37, isi38, isi39, isi40, isi41, onlyF, dIx_tup, dIx_lst, dIx_ref, ixAt_0, ixAt_1, ixAt_2, ixAt_3, iEq_int, iNe_int, dAdd, iAdd, iSub, iNeg, iCmp, iLe, iLt, iGe, iGt, dMul, iMulT, iMul, iMod, iDiv, gIx, setIx, decide_true, decide_false, decide_eq_true_eq, Bool.not_eq_true, List.length_map, isRow, isTupleOf, M_is_tuple_of, hl]
      · have : ¬ ((r.length : Int) + 1 + 1 + 1 = 2) := by omega
        simp [b_is_row, pureRun, onlyP, fnM, mVar, mK, mBin, mUn, mTru, mTest, mAnd, mOr, mNot, mAndV, mOrV, mNotV, mIf, mNil, mCons, mTup, mLst, mLstF, mCall, mChain, mIsi, fIsi, tyD, tyP, mSlice, oNo, oSome, mSeq, srcOf, mRange1, mRange2, sNext, sSeq, sIf, sRet, sRetN, sExpr, sSet, sAsg, sAug, sFor, sRaise, gSet, gMore, gNone, Mp.gTup, mMeth, fAppend, fLen, fInt, truth, ptruth, asB, pp1, pp2, ret1, dIs, isN, allP, frzD, mFrz, Mp.R.bind, R.thn, RS.seq, List.map_cons, List.map_nil, List.cons_append, List.nil_append, List.length_cons, List.length_nil, List.getElem?_cons_zero, List.getElem?_cons_succ, List.getElem?_nil, List.set_cons_zero, List.set_cons_succ, if_true, ite_true, Nat.reduceAdd, Nat.reduceSub, List.replicate, Bool.false_eq_true, if_false, Bool.not_true, Bool.not_false, mp_ft, mp_tf, isTy, beq_self_eq_true, isi0, isi1, isi2, isi3, isi4, isi5, isi6, isi7, isi8, isi9, isi10, isi11, isi12, isi13, isi14, isi15, isi16, isi17, isi18, isi19, isi20, isi21, isi22, isi23, isi24, isi25, isi26, isi27, isi28, isi29, isi30, isi31, isi32, isi33, isi34, isi35, isi36, isi37, isi38, isi39, isi40, isi41, onlyF, dIx_tup, dIx_lst, dIx_ref, ixAt_0, ixAt_1, ixAt_2, ixAt_3, iEq_int, iNe_int, dAdd, iAdd, iSub, iNeg, iCmp, iLe, iLt, iGe, iGt, dMul, iMulT, iMul, iMod, iDiv, gIx, setIx, decide_true, decide_false, decide_eq_true_eq, Bool.not_eq_true, List.length_map, isRow, isTupleOf, M_is_tuple_of, this]
    · exact .inr rfl
  · exact .inr rfl

/-! is_machine -/
theorem sc_is_machine : FnScope ["thing", "states", "row"] ["thing"] (defScope t_is_machine) := ⟨rfl, rfl, rfl, by decide +kernel, rfl, by decide +kernel, by decide +kernel⟩
theorem bn_is_machine : BindN "is_machine" t_is_machine ["thing"] := fun _ _ _ _ _ _ us hl => match us, hl with | [_], _ => rfl
noncomputable def b_is_machine : MS := (sSeq (sIf (mOr (mNot (mTru (mCall M_is_tuple_of (mCons (mVar 0) (mCons (mK (.int 2)) mNil))))) (mOr (mNot (mTru (mCall M_is_size (mCons (mBin dIx (mVar 0) (mK (.int 0))) mNil)))) (mNot (mTru (mIsi "tuple" (mBin dIx (mVar 0) (mK (.int 1)))))))) (sRet (mK (.bool false))) sNext) (sSeq (sSet 1 (mCall fLen (mCons (mBin dIx (mVar 0) (mK (.int 1))) mNil))) (sRet (mAndV (mChain (pp2 iLe) (pp2 iLe) (mK (.int 1)) (mVar 1) (mK (.int 30))) (mCall fAll (mCons (mLc (mSeq (mBin dIx (mVar 0) (mK (.int 1)))) [2] (gSet 2) mYes (mCall M_is_row (mCons (mVar 2) (mCons (mBin dIx (mVar 0) (mK (.int 0))) (mCons (mVar 1) mNil)))) kFrz) mNil))))))
theorem raw_is_machine (N : Nm K mg) : DefOk P w K mg base "is_machine" 6 1 (fnM 1 3 b_is_machine) := def_mk N.d_is_machine sc_is_machine bn_is_machine rfl rfl fun f cdv A outer s H E hr nd tk hp => (ss_cons (s_if (t_w (w_or (t_not (t_tru (e_callS (ok_is_tuple_of N) hr (by decide) tk (a_cons (e_var (i := 0)) (a_cons e_int a_nil)) (argN_cons (argN_cons argN_nil))))) (w_or (t_not (t_tru (e_callS (ok_is_size N) hr (by decide) tk (a_cons (e_ix (e_var (i := 0)) (e_gint N.i_SIZE)) a_nil) (argN_cons argN_nil)))) (w_or1 (t_not (t_tru (e_isi (T := "tuple") (by decide) rfl N.f_isinstance rfl N.f_tuple bt_tuple (e_ix (e_var (i := 0)) (e_gint N.i_ROWS))))))))) (ss_one (s_ret e_bool)) ss_nil) (ss_cons (s_set (i := 1) nd (e_bi b_len rfl N.f_len bt_len (a_cons (e_ix (e_var (i := 0)) (e_gint N.i_ROWS)) a_nil))) (ss_one (s_ret (e_and (e_chain o_leP o_leP e_int (e_var (i := 1)) (e_gint N.i_MOST_STATES)) (e_one (e_bi (b_all rfl) rfl N.f_all bt_all (a_cons (e_lcF (own := [("row", 2)]) rfl nd (i_seq (e_ix (e_var (i := 0)) (e_gint N.i_ROWS))) (blkOk_by (N := ["thing", "states", "row"]) (sc := defScope t_is_machine) (own := [("row", 2)]) (by decide +kernel)) (tg_name (i := 2) (by decide)) (fun _ _ _ _ _ => pg_name (i := 2) nd rfl (by first | exact Or.inl rfl | exact Or.inr rfl)) (fun _ _ _ _ _ => c_no) (fun _ _ _ _ _ => (e_callS (ok_is_row N) hr (by decide) takes0 (a_cons (e_var (i := 2)) (a_cons (e_ix (e_var (i := 0)) (e_gint N.i_SIZE)) (a_cons (e_var (i := 1)) a_nil))) (argN_cons (argN_cons (argN_cons argN_nil)))))) a_nil))))))))
def M_is_machine : List D → S → R D := fun ds s => match ds with
  | [.p x] => .ok (.p (.bool (isMachine x))) s
  | _ => .bad
theorem ok_is_machine (N : Nm K mg) : DefOk P w K mg base "is_machine" 6 1 M_is_machine := (raw_is_machine N).alone.eqv fun ds s => by
  unfold M_is_machine
  split
  · rename_i x
    left
    cases x <;> try rfl
    rename_i ps
    rcases ps with _ | ⟨a, _ | ⟨b, _ | ⟨c, r⟩⟩⟩
    · rfl
    · cases a <;> rfl
    · cases a <;> try (simp [b_is_machine, pureRun, onlyP, fnM, mVar, mK, mBin, mUn, mTru, mTest, mAnd, mOr, mNot, mAndV, mOrV, mNotV, mIf, mNil, mCons, mTup, mLst, mLstF, mCall, mChain, mIsi, fIsi, tyD, tyP, mSlice, oNo, oSome, mSeq, srcOf, mRange1, mRange2, sNext, sSeq, sIf, sRet, sRetN, sExpr, sSet, sAsg, sAug, sFor, sRaise, gSet, gMore, gNone, Mp.gTup, mMeth, fAppend, fLen, fInt, truth, ptruth, asB, pp1, pp2, ret1, dIs, isN, allP, frzD, mFrz, Mp.R.bind, R.thn, RS.seq, List.map_cons, List.map_nil, List.cons_append, List.nil_append, List.length_cons, List.length_nil, List.getElem?_cons_zero, List.getElem?_cons_succ, List.getElem?_nil, List.set_cons_zero, List.set_cons_succ, if_true, ite_true, Nat.reduceAdd, Nat.reduceSub, List.replicate, Bool.false_eq_true, if_false, Bool.not_true, Bool.not_false, mp_ft, mp_tf, isTy, beq_self_eq_true, isi0, isi1, isi2, isi3, isi4, isi5, isi6, isi7, isi8, isi9, isi10, isi11, isi12, isi13, isi14, isi15, isi16, isi17, isi18, isi19, isi20, isi21, isi22, isi23, isi24, isi25, isi26, isi27, isi28, isi29, isi30, isi31, isi32, isi33, isi34, isi35, isi36, isi37, isi38, isi39, isi40, isi41, onlyF, dIx_tup, dIx_lst, dIx_ref, ixAt_0, ixAt_1, ixAt_2, ixAt_3, iEq_int, iNe_int, dAdd, iAdd, iSub, iNeg, iCmp, iLe, iLt, iGe, iGt, dMul, iMulT, iMul, iMod, iDiv, gIx, setIx, decide_true, decide_false, decide_eq_true_eq, Bool.not_eq_true, List.length_map, isMachine, isTupleOf, M_is_tuple_of, M_is_size, isBetween, isi0]; done)
      rename_i n
      by_cases hn : 1 ≤ n ∧ n ≤ 8
      · cases b <;> try (simp [b_is_machine, pureRun, onlyP, fnM, mVar, mK, mBin, mUn, mTru, mTest, mAnd, mOr, mNot, mAndV, mOrV, mNotV, mIf, mNil, mCons, mTup, mLst, mLstF, mCall, mChain, mIsi, fIsi, tyD, tyP, mSlice, oNo, oSome, mSeq, srcOf, mRange1, mRange2, sNext, sSeq, sIf, sRet, sRetN, sExpr, sSet, sAsg, sAug, sFor, sRaise, gSet, gMore, gNone, Mp.gTup, mMeth, fAppend, fLen, fInt, truth, ptruth, asB, pp1, pp2, ret1, dIs, isN, allP, frzD, mFrz, Mp.R.bind, R.thn, RS.seq, List.map_cons, List.map_nil, List.cons_append, List.nil_append, List.length_cons, List.length_nil, List.getElem?_cons_zero, List.getElem?_cons_succ, List.getElem?_nil, List.set_cons_zero, List.set_cons_succ, if_true, ite_true, Nat.reduceAdd, Nat.reduceSub, List.replicate, Bool.false_eq_true, if_false, Bool.not_true, Bool.not_false, mp_ft, mp_tf, isTy, beq_self_eq_true, isi0, isi1, isi2, isi3, isi4, isi5, isi6, isi7, isi8, isi9, isi10, isi11, isi12, isi13, isi14, isi15, isi16, isi17, isi18, isi19, isi20, isi21, isi22, isi23, isi24, isi25, isi26, isi27, isi28, isi29, isi30, isi31, isi32, isi33, isi34, isi35, isi36, isi37, isi38, isi39, isi40, isi41, onlyF, dIx_tup, dIx_lst, dIx_ref, ixAt_0, ixAt_1, ixAt_2, ixAt_3, iEq_int, iNe_int, dAdd, iAdd, iSub, iNeg, iCmp, iLe, iLt, iGe, iGt, dMul, iMulT, iMul, iMod, iDiv, gIx, setIx, decide_true, decide_false, decide_eq_true_eq, Bool.not_eq_true, List.length_map, isMachine, isTupleOf, M_is_tuple_of, M_is_size, isBetween, hn]; done)
        rename_i ss
        by_cases hl : 1 ≤ ss.length ∧ ss.length ≤ 30
        · have hz : sizeOk ss.length = true := sizeOk_of (by omega)
          have h1 : (1:Int) ≤ (ss.length : Int) := by omega
          have h2 : (ss.length : Int) ≤ 30 := by omega
          have e0 : ∀ w, lcL (Src.fix (ss.map D.p)).ok (gSet 2) mYes (mCall M_is_row (mCons (mVar 2) (mCons (mBin dIx (mVar 0) (mK (.int 0))) (mCons (mVar 1) mNil)))) [some (.p (.tuple [.int n, .tuple ss])), some (.p (.int ss.length)), none] (ss.map D.p) ⟨[], w⟩ = .ok (ss.map fun x => .p (.bool (isRow x n ss.length))) ⟨[], w⟩ := fun w => lc_map trivial fun x _ => by simp [pureRun, onlyP, fnM, mVar, mK, mBin, mUn, mTru, mTest, mAnd, mOr, mNot, mAndV, mOrV, mNotV, mIf, mNil, mCons, mTup, mLst, mLstF, mCall, mChain, mIsi, fIsi, tyD, tyP, mSlice, oNo, oSome, mSeq, srcOf, mRange1, mRange2, sNext, sSeq, sIf, sRet, sRetN, sExpr, sSet, sAsg, sAug, sFor, sRaise, gSet, gMore, gNone, Mp.gTup, mMeth, fAppend, fLen, fInt, truth, ptruth, asB, pp1, pp2, ret1, dIs, isN, allP, frzD, mFrz, Mp.R.bind, R.thn, RS.seq, List.map_cons, List.map_nil, List.cons_append, List.nil_append, List.length_cons, List.length_nil, List.getElem?_cons_zero, List.getElem?_cons_succ, List.getElem?_nil, List.set_cons_zero, List.set_cons_succ, if_true, ite_true, Nat.reduceAdd, Nat.reduceSub, List.replicate, Bool.false_eq_true, if_false, Bool.not_true, Bool.not_false, mp_ft, mp_tf, isTy, beq_self_eq_true, isi0, isi1, isi2, isi3, isi4, isi5, isi6, isi7, isi8, isi9, isi10, isi11, isi12, isi13, isi14, isi15, isi16, isi17, isi18, isi19, isi20, isi21, isi22, isi23, isi24, isi25, isi26, isi27, isi28, isi29, isi30, isi31, isi32, isi33, isi34, isi35, isi36, isi37, isi38, isi39, isi40, isi41, onlyF, dIx_tup, dIx_lst, dIx_ref, ixAt_0, ixAt_1, ixAt_2, ixAt_3, iEq_int, iNe_int, dAdd, iAdd, iSub, iNeg, iCmp, iLe, iLt, iGe, iGt, dMul, iMulT, iMul, iMod, iDiv, gIx, setIx, decide_true, decide_false, decide_eq_true_eq, Bool.not_eq_true, List.length_map, M_is_row, hn]
          simp [b_is_machine, pureRun, onlyP, fnM, mVar, mK, mBin, mUn, mTru, mTest, mAnd, mOr, mNot, mAndV, mOrV, mNotV, mIf, mNil, mCons, mTup, mLst, mLstF, mCall, mChain, mIsi, fIsi, tyD, tyP, mSlice, oNo, oSome, mSeq, srcOf, mRange1, mRange2, sNext, sSeq, sIf, sRet, sRetN, sExpr, sSet, sAsg, sAug, sFor, sRaise, gSet, gMore, gNone, Mp.gTup, mMeth, fAppend, fLen, fInt, truth, ptruth, asB, pp1, pp2, ret1, dIs, isN, allP, frzD, mFrz, Mp.R.bind, R.thn, RS.seq, List.map_cons, List.map_nil, List.cons_append, List.nil_append, List.length_cons, List.length_nil, List.getElem?_cons_zero, List.getElem?_cons_succ, List.getElem?_nil, List.set_cons_zero, List.set_cons_succ, if_true, ite_true, Nat.reduceAdd, Nat.reduceSub, List.replicate, Bool.false_eq_true, if_false, Bool.not_true, Bool.not_false, mp_ft, mp_tf, isTy, beq_self_eq_true, isi0, isi1, isi2, isi3, isi4, isi5, isi6, isi7, isi8, isi9, isi10, isi11, isi12, isi13, isi14, isi15, isi16, isi17, isi18, isi19, isi20, isi21, isi22, isi23, isi24, isi25, isi26, isi27, isi28, isi29, isi30, isi31, isi32, isi33, isi34, isi35, isi36, isi37, isi38, isi39, isi40, isi41, onlyF, dIx_tup, dIx_lst, dIx_ref, ixAt_0, ixAt_1, ixAt_2, ixAt_3, iEq_int, iNe_int, dAdd, iAdd, iSub, iNeg, iCmp, iLe, iLt, iGe, iGt, dMul, iMulT, iMul, iMod, iDiv, gIx, setIx, decide_true, decide_false, decide_eq_true_eq, Bool.not_eq_true, List.length_map, isMachine, isTupleOf, M_is_tuple_of, M_is_size, isBetween, hn, mLc, wipeE, Src.items, hz, e0, kFrz, fAll, lstP, -List.map_map, allP_map, allB_map, h1, h2, hl]
        · by_cases h1 : 1 ≤ ss.length
          · have h1' : (1:Int) ≤ (ss.length : Int) := by omega
            have h2' : ¬ ((ss.length : Int) ≤ 30) := by omega
            simp [b_is_machine, pureRun, onlyP, fnM, mVar, mK, mBin, mUn, mTru, mTest, mAnd, mOr, mNot, mAndV, mOrV, mNotV, mIf, mNil, mCons, mTup, mLst, mLstF, mCall, mChain, mIsi, fIsi, tyD, tyP, mSlice, oNo, oSome, mSeq, srcOf, mRange1, mRange2, sNext, sSeq, sIf, sRet, sRetN, sExpr, sSet, sAsg, sAug, sFor, sRaise, gSet, gMore, gNone, Mp.gTup, mMeth, fAppend, fLen, fInt, truth, ptruth, asB, pp1, pp2, ret1, dIs, isN, allP, frzD, mFrz, Mp.R.bind, R.thn, RS.seq, List.map_cons, List.map_nil, List.cons_append, List.nil_append, List.length_cons, List.length_nil, List.getElem?_cons_zero, List.getElem?_cons_succ, List.getElem?_nil, List.set_cons_zero, List.set_cons_succ, if_true, ite_true, Nat.reduceAdd, Nat.reduceSub, List.replicate, Bool.false_eq_true, if_false, Bool.not_true, Bool.not_false, mp_ft, mp_tf, isTy, beq_self_eq_true, isi0, isi1, isi2, isi3, isi4, isi5, isi6, isi7, isi8, isi9, isi10, isi11, isi12, isi13, isi14, isi15, isi16, isi17, isi18, isi19, isi20, isi21, isi22, isi23, isi24, isi25, isi26, isi27, isi28, isi29, isi30, isi31, isi32, isi33, isi34, isi35, isi36, isi37, isi38, isi39, isi40, isi41, onlyF, dIx_tup, dIx_lst, dIx_ref, ixAt_0, ixAt_1, ixAt_2, ixAt_3, iEq_int, iNe_int, dAdd, iAdd, iSub, iNeg, iCmp, iLe, iLt, iGe, iGt, dMul, iMulT, iMul, iMod, iDiv, gIx, setIx, decide_true, decide_false, decide_eq_true_eq, Bool.not_eq_true, List.length_map, isMachine, isTupleOf, M_is_tuple_of, M_is_size, isBetween, hn, h1', h2', hl]
          · have h1' : ¬ ((1:Int) ≤ (ss.length : Int)) := by omega
            simp [b_is_machine, pureRun, onlyP, fnM, mVar, mK, mBin, mUn, mTru, mTest, mAnd, mOr, mNot, mAndV, mOrV, mNotV, mIf, mNil, mCons, mTup, mLst, mLstF, mCall, mChain, mIsi, fIsi, tyD, tyP, mSlice, oNo, oSome, mSeq, srcOf, mRange1, mRange2, sNext, sSeq, sIf, sRet, sRetN, sExpr, sSet, sAsg, sAug, sFor, sRaise, gSet, gMore, gNone, Mp.gTup, mMeth, fAppend, fLen, fInt, truth, ptruth, asB, pp1, pp2, ret1, dIs, isN, allP, frzD, mFrz, Mp.R.bind, R.thn, RS.seq, List.map_cons, List.map_nil, List.cons_append, List.nil_append, List.length_cons, List.length_nil, List.getElem?_cons_zero, List.getElem?_cons_succ, List.getElem?_nil, List.set_cons_zero, List.set_cons_succ, if_true, ite_true, Nat.reduceAdd, Nat.reduceSub, List.replicate, Bool.false_eq_true, if_false, Bool.not_true, Bool.not_false, mp_ft, mp_tf, isTy, beq_self_eq_true, isi0, isi1, isi2, isi3, isi4, isi5, isi6, isi7, isi8, isi9, isi10, isi11, isi12, isi13, isi14, isi15, isi16, isi17, isi18, isi19, isi20, isi21, isi22, isi23, isi24, isi25, isi26, isi27, isi28, isi29, isi30, isi31, isi32, isi33, isi34, isi35, isi36, isi37, isi38, isi39, isi40, isi41, onlyF, dIx_tup, dIx_lst, dIx_ref, ixAt_0, ixAt_1, ixAt_2, ixAt_3, iEq_int, iNe_int, dAdd, iAdd, iSub, iNeg, iCmp, iLe, iLt, iGe, iGt, dMul, iMulT, iMul, iMod, iDiv, gIx, setIx, decide_true, decide_false, decide_eq_true_eq, Bool.not_eq_true, List.length_map, isMachine, isTupleOf, M_is_tuple_of, M_is_size, isBetween, hn, h1', hl]
      · have hn' : n < 1 ∨ 8 < n := by omega
        cases b <;> simp [b_is_machine, pureRun, onlyP, fnM, mVar, mK, mBin, mUn, mTru, mTest, mAnd, mOr, mNot, mAndV, mOrV, mNotV, mIf, mNil, mCons, mTup, mLst, mLstF, mCall, mChain, mIsi, fIsi, tyD, tyP, mSlice, oNo, oSome, mSeq, srcOf, mRange1, mRange2, sNext, sSeq, sIf, sRet, sRetN, sExpr, sSet, sAsg, sAug, sFor, sRaise, gSet, gMore, gNone, Mp.gTup, mMeth, fAppend, fLen, fInt, truth, ptruth, asB, pp1, pp2, ret1, dIs, isN, allP, frzD, mFrz, Mp.R.bind, R.thn, RS.seq, List.map_cons, List.map_nil, List.cons_append, List.nil_append, List.length_cons, List.length_nil, List.getElem?_cons_zero, List.getElem?_cons_succ, List.getElem?_nil, List.set_cons_zero, List.set_cons_succ, if_true, ite_true, Nat.reduceAdd, Nat.reduceSub, List.replicate, Bool.false_eq_true, if_false, Bool.not_true, Bool.not_false, mp_ft, mp_tf, isTy, beq_self_eq_true, isi0, isi1, isi2, isi3, isi4, isi5, isi6, isi7, isi8, isi9, isi10, isi11, isi12, isi13, isi14, isi15, isi16, isi17, isi18, isi19, isi20, isi21, isi22, isi23, isi24, isi25, isi26, isi27, isi28, isi29, isi30, isi31, isi32, isi33, isi34, isi35, isi36, isi37, isi38, isi39, isi40, isi41, onlyF, dIx_tup, dIx_lst, dIx_ref, ixAt_0, ixAt_1, ixAt_2, ixAt_3, iEq_int, iNe_int, dAdd, iAdd, iSub, iNeg, iCmp, iLe, iLt, iGe, iGt, dMul, iMulT, iMul, iMod, iDiv, gIx, setIx, decide_true, decide_false, decide_eq_true_eq, Bool.not_eq_true, List.length_map, isMachine, isTupleOf, M_is_tuple_of, M_is_size, isBetween, hn']
        omega
    · have : ¬ ((r.length : Int) + 1 + 1 + 1 = 2) := by omega
      simp [b_is_machine, pureRun, onlyP, fnM, mVar, mK, mBin, mUn, mTru, mTest, mAnd, mOr, mNot, mAndV, mOrV, mNotV, mIf, mNil, mCons, mTup, mLst, mLstF, mCall, mChain, mIsi, fIsi, tyD, tyP, mSlice, oNo, oSome, mSeq, srcOf, mRange1, mRange2, sNext, sSeq, sIf, sRet, sRetN, sExpr, sSet, sAsg, sAug, sFor, sRaise, gSet, gMore, gNone, Mp.gTup, mMeth, fAppend, fLen, fInt, truth, ptruth, asB, pp1, pp2, ret1, dIs, isN, allP, frzD, mFrz, Mp.R.bind, R.thn, RS.seq, List.map_cons, List.map_nil, List.cons_append, List.nil_append, List.length_cons, List.length_nil, List.getElem?_cons_zero, List.getElem?_cons_succ, List.getElem?_nil, List.set_cons_zero, List.set_cons_succ, if_true, ite_true, Nat.reduceAdd, Nat.reduceSub, List.replicate, Bool.false_eq_true, if_false, Bool.not_true, Bool.not_false, mp_ft, mp_tf, isTy, beq_self_eq_true, isi0, isi1, isi2, isi3, isi4, isi5, isi6, isi7, isi8, isi9, isi10, isi11, isi12, isi13, isi14, isi15, isi16, isi17, isi18, isi19, isi20, isi21, isi22, isi23, isi24, isi25, isi26, isi27, isi28, isi29, isi30, isi31, isi32, isi33, isi34, isi35, isi36, isi37, isi38, isi39, isi40, isi41, onlyF, dIx_tup, dIx_lst, dIx_ref, ixAt_0, ixAt_1, ixAt_2, ixAt_3, iEq_int, iNe_int, dAdd, iAdd, iSub, iNeg, iCmp, iLe, iLt, iGe, iGt, dMul, iMulT, iMul, iMod, iDiv, gIx, setIx, decide_true, decide_false, decide_eq_true_eq, Bool.not_eq_true, List.length_map, isMachine, isTupleOf, M_is_tuple_of, this]
  · exact .inr rfl

/-! check_machine -/
theorem sc_check_machine : FnScope ["thing"] ["thing"] (defScope t_check_machine) := ⟨rfl, rfl, rfl, by decide +kernel, rfl, by decide +kernel, by decide +kernel⟩
theorem bn_check_machine : BindN "check_machine" t_check_machine ["thing"] := fun _ _ _ _ _ _ us hl => match us, hl with | [_], _ => rfl
noncomputable def b_check_machine : MS := (sIf (mNot (mTru (mCall M_is_machine (mCons (mVar 0) mNil)))) (sRaise "NoMachine") sNext)
theorem raw_check_machine (N : Nm K mg) : DefOk P w K mg base "check_machine" 7 1 (fnM 1 1 b_check_machine) := def_mk N.d_check_machine sc_check_machine bn_check_machine rfl rfl fun f cdv A outer s H E hr nd tk hp => (ss_one (s_if (t_not (t_tru (e_callS (ok_is_machine N) hr (by decide) tk (a_cons (e_var (i := 0)) a_nil) (argN_cons argN_nil)))) (ss_one (s_raiseX N.x_NoMachine tk)) ss_nil))
def M_check_machine : List D → S → R D := fun ds s => match ds with
  | [.p x] => if isMachine x then .ok (.p .none) s else .ex "NoMachine" [] s
  | _ => .bad
theorem ok_check_machine (N : Nm K mg) : DefOk P w K mg base "check_machine" 7 1 M_check_machine := (raw_check_machine N).alone.eqv fun ds s => by
  unfold M_check_machine
  split
  · rename_i x
    left
    cases h : isMachine x <;> simp [b_check_machine, pureRun, onlyP, fnM, mVar, mK, mBin, mUn, mTru, mTest, mAnd, mOr, mNot, mAndV, mOrV, mNotV, mIf, mNil, mCons, mTup, mLst, mLstF, mCall, mChain, mIsi, fIsi, tyD, tyP, mSlice, oNo, oSome, mSeq, srcOf, mRange1, mRange2, sNext, sSeq, sIf, sRet, sRetN, sExpr, sSet, sAsg, sAug, sFor, sRaise, gSet, gMore, gNone, Mp.gTup, mMeth, fAppend, fLen, fInt, truth, ptruth, asB, pp1, pp2, ret1, dIs, isN, allP, frzD, mFrz, Mp.R.bind, R.thn, RS.seq, List.map_cons, List.map_nil, List.cons_append, List.nil_append, List.length_cons, List.length_nil, List.getElem?_cons_zero, List.getElem?_cons_succ, List.getElem?_nil, List.set_cons_zero, List.set_cons_succ, if_true, ite_true, Nat.reduceAdd, Nat.reduceSub, List.replicate, Bool.false_eq_true, if_false, Bool.not_true, Bool.not_false, mp_ft, mp_tf, isTy, beq_self_eq_true, isi0, isi1, isi2, isi3, isi4, isi5, isi6, isi7, isi8, isi9, isi10, isi11, isi12, isi13, isi14, isi15, isi16, isi17, isi18, isi19, isi20, isi21, isi22, isi23, isi24, isi25, isi26, isi27, isi28, isi29, isi30, isi31, isi32, isi33, isi34, isi35, isi36, isi37, isi38, isi39, isi40, isi41, onlyF, dIx_tup, dIx_lst, dIx_ref, ixAt_0, ixAt_1, ixAt_2, ixAt_3, iEq_int, iNe_int, dAdd, iAdd, iSub, iNeg, iCmp, iLe, iLt, iGe, iGt, dMul, iMulT, iMul, iMod, iDiv, gIx, setIx, decide_true, decide_false, decide_eq_true_eq, Bool.not_eq_true, List.length_map, M_is_machine, h, onlyF]
  · exact .inr rfl

/-! raw_length -/
theorem sc_raw_length : FnScope ["machine", "text", "state", "found", "letter", "step", "end"] ["machine", "text"] (defScope t_raw_length) := ⟨rfl, rfl, rfl, by decide +kernel, rfl, by decide +kernel, by decide +kernel⟩
theorem bn_raw_length : BindN "raw_length" t_raw_length ["machine", "text"] := fun _ _ _ _ _ _ us hl => match us, hl with | [_, _], _ => rfl
noncomputable def b_raw_length : MS := (sSeq (sAsg (mTup (mCons (mK (.int 0)) (mCons (mK (.int 0)) mNil))) (gTup 2 (gMore (gSet 2) (gMore (gSet 3) gNone)))) (sSeq (sFor (mSeq (mVar 1)) (gSet 4) (sSeq (sSet 5 (mBin dIx (mBin dIx (mBin dIx (mBin dIx (mVar 0) (mK (.int 1))) (mVar 2)) (mK (.int 1))) (mVar 4))) (sSeq (sIf (mTest (mBin (dIs true) (mVar 5) (mK .none))) (sRet (mK .none)) sNext) (sSeq (sAug 3 (pp2 iAdd) (mBin dIx (mVar 5) (mK (.int 0)))) (sSet 2 (mBin dIx (mVar 5) (mK (.int 1)))))))) (sSeq (sSet 6 (mBin dIx (mBin dIx (mBin dIx (mVar 0) (mK (.int 1))) (mVar 2)) (mK (.int 0)))) (sRet (mIf (mTest (mBin (dIs true) (mVar 6) (mK .none))) (mK .none) (mBin dAdd (mVar 3) (mVar 6)))))))
theorem raw_raw_length (N : Nm K mg) : DefOk P w K mg base "raw_length" 1 2 (fnM 2 7 b_raw_length) := def_mk N.d_raw_length sc_raw_length bn_raw_length rfl rfl fun f cdv A outer s H E hr nd tk hp => (ss_cons (s_asg (e_tup (a_cons e_int (a_cons e_int a_nil))) (g_tup rfl (gs_cons (g_name (i := 2) nd) (gs_cons (g_name (i := 3) nd) gs_nil QuietG.none) (QuietG.more Quiet1.set QuietG.none)))) (ss_cons (s_for hp rfl (i_seq (e_var (i := 1))) (g_name (i := 4) nd) (ss_cons (s_set (i := 5) nd (e_ix (e_ix (e_ix (e_ix (e_var (i := 0)) (e_gint N.i_ROWS)) (e_var (i := 2))) e_int) (e_var (i := 4)))) (ss_cons (s_if (t_cmp o_is (e_var (i := 5)) e_none (nomark _)) (ss_one (s_ret e_none)) ss_nil) (ss_cons (s_aug (i := 3) nd o_iaddP (e_ix (e_var (i := 5)) e_int)) (ss_one (s_set (i := 2) nd (e_ix (e_var (i := 5)) e_int))))))) (ss_cons (s_set (i := 6) nd (e_ix (e_ix (e_ix (e_var (i := 0)) (e_gint N.i_ROWS)) (e_var (i := 2))) e_int)) (ss_one (s_ret (e_if (t_cmp o_is (e_var (i := 6)) e_none (nomark _)) e_none (e_bin o_add (e_var (i := 3)) (e_var (i := 6)))))))))
noncomputable def M_raw_length : List D → S → R D := pureRun (fnM 2 7 b_raw_length)
theorem ok_raw_length (N : Nm K mg) : DefOk P w K mg base "raw_length" 1 2 M_raw_length := (raw_raw_length N).alone
theorem raw_length_eq {m : Mac} (hm : m.Ok) {t : List Nat} (ht : TxOk m.n t) {s : S} : M_raw_length [.p (eM m), .p (eT t)] s = .ok (.p (eO (m.len t))) s := by
  refine pure_eq rfl ?_
  have z2 : sizeOk 2 = true := by decide
  simp only [b_raw_length, mVar, mK, mBin, mUn, mTru, mTest, mAnd, mOr, mNot, mAndV, mOrV, mNotV, mIf, mNil, mCons, mTup, mLst, mLstF, mCall, mChain, mIsi, fIsi, tyD, tyP, mSlice, oNo, oSome, mSeq, srcOf, mRange1, mRange2, sNext, sSeq, sIf, sRet, sRetN, sExpr, sSet, sAsg, sAug, sFor, sRaise, gSet, gMore, gNone, Mp.gTup, mMeth, fAppend, fLen, fInt, truth, ptruth, asB, pp1, pp2, ret1, dIs, isN, allP, frzD, mFrz, List.map_cons, List.map_nil, List.cons_append, List.nil_append, List.length_cons, List.length_nil, List.getElem?_cons_zero, List.getElem?_cons_succ, List.getElem?_nil, List.set_cons_zero, List.set_cons_succ, if_true, ite_true, Nat.reduceAdd, Nat.reduceSub, List.replicate, Bool.false_eq_true, if_false, Bool.not_true, Bool.not_false, mp_ft, mp_tf, isTy, beq_self_eq_true, isi0, isi1, isi2, isi3, isi4, isi5, isi6, isi7, isi8, isi9, isi10, isi11, isi12, isi13, isi14, isi15, isi16, isi17, isi18, isi19, isi20, isi21, isi22, isi23, isi24, isi25, isi26, isi27, isi28, isi29, isi30, isi31, isi32, isi33, isi34, isi35, isi36, isi37, isi38, isi39, isi40, isi41, onlyF, dIx_tup, dIx_lst, dIx_ref, ixAt_0, ixAt_1, ixAt_2, ixAt_3, iEq_int, iNe_int, dAdd, iAdd, iSub, iNeg, iCmp, iLe, iLt, iGe, iGt, dMul, iMulT, iMul, iMod, iDiv, gIx, setIx, decide_true, decide_false, decide_eq_true_eq, Bool.not_eq_true, List.length_map, gets_ok, gets_bind, gets_ite, rsw_ite, rsw_seq, rsw_thn, rsw_nx, rsw_ret, rst_x, rsx_seq, rsx_nx, rsx_ret, rsx_brk, rsx_cont, rsx_ite, rsx_thn, gets_fnM, onlyP, Option.map_some, Src.items, z2, Src.items, Src.ok, eT, map_map]
  refine for_gets (J := fun xs e s' => ∃ (t1 : List Nat) (q f : Nat) (e4 e5 : Option D), xs = t1.map (fun c => D.p (eN c)) ∧ TxOk m.n t1 ∧ q < m.rs.length ∧ m.read 0 0 t = m.read q f t1 ∧ s' = ⟨[], s.w⟩ ∧ e = [some (.p (eM m)), some (.p (.tuple (t.map eN))), some (.p (.int q)), some (.p (.int f)), e4, e5, none]) (fun _ _ _ _ => trivial) ?_ ?_ _ _ _ ?_
  · rintro x xs e s' ⟨t1, q, f, e4, e5, hx, ht1, hq, hr, rfl, rfl⟩
    cases t1 with
    | nil => cases hx
    | cons c t1 =>
      cases hx
      have hc : c < (m.row q).ss.length := by rw [(hm.row hq).len]; exact ht1 c List.mem_cons_self
      simp only [mVar, mK, mBin, mUn, mTru, mTest, mAnd, mOr, mNot, mAndV, mOrV, mNotV, mIf, mNil, mCons, mTup, mLst, mLstF, mCall, mChain, mIsi, fIsi, tyD, tyP, mSlice, oNo, oSome, mSeq, srcOf, mRange1, mRange2, sNext, sSeq, sIf, sRet, sRetN, sExpr, sSet, sAsg, sAug, sFor, sRaise, gSet, gMore, gNone, Mp.gTup, mMeth, fAppend, fLen, fInt, truth, ptruth, asB, pp1, pp2, ret1, dIs, isN, allP, frzD, mFrz, List.map_cons, List.map_nil, List.cons_append, List.nil_append, List.length_cons, List.length_nil, List.getElem?_cons_zero, List.getElem?_cons_succ, List.getElem?_nil, List.set_cons_zero, List.set_cons_succ, if_true, ite_true, Nat.reduceAdd, Nat.reduceSub, List.replicate, Bool.false_eq_true, if_false, Bool.not_true, Bool.not_false, mp_ft, mp_tf, isTy, beq_self_eq_true, isi0, isi1, isi2, isi3, isi4, isi5, isi6, isi7, isi8, isi9, isi10, isi11, isi12, isi13, isi14, isi15, isi16, isi17, isi18, isi19, isi20, isi21, isi22, isi23, isi24, isi25, isi26, isi27, isi28, isi29, isi30, isi31, isi32, isi33, isi34, isi35, isi36, isi37, isi38, isi39, isi40, isi41, onlyF, dIx_tup, dIx_lst, dIx_ref, ixAt_0, ixAt_1, ixAt_2, ixAt_3, iEq_int, iNe_int, dAdd, iAdd, iSub, iNeg, iCmp, iLe, iLt, iGe, iGt, dMul, iMulT, iMul, iMod, iDiv, gIx, setIx, decide_true, decide_false, decide_eq_true_eq, Bool.not_eq_true, List.length_map, gets_ok, gets_bind, gets_ite, rsw_ite, rsw_seq, rsw_thn, rsw_nx, rsw_ret, rst_x, rsx_seq, rsx_nx, rsx_ret, rsx_brk, rsx_cont, rsx_ite, rsx_thn, gets_fnM, onlyP, Option.map_some, Src.items, ix_M1, ix_rs hq, ix_R1, eN, ix_ss hc]
      cases hst : (m.row q).st c with
      | none =>
        simp [mVar, mK, mBin, mUn, mTru, mTest, mAnd, mOr, mNot, mAndV, mOrV, mNotV, mIf, mNil, mCons, mTup, mLst, mLstF, mCall, mChain, mIsi, fIsi, tyD, tyP, mSlice, oNo, oSome, mSeq, srcOf, mRange1, mRange2, sNext, sSeq, sIf, sRet, sRetN, sExpr, sSet, sAsg, sAug, sFor, sRaise, gSet, gMore, gNone, Mp.gTup, mMeth, fAppend, fLen, fInt, truth, ptruth, asB, pp1, pp2, ret1, dIs, isN, allP, frzD, mFrz, List.map_cons, List.map_nil, List.cons_append, List.nil_append, List.length_cons, List.length_nil, List.getElem?_cons_zero, List.getElem?_cons_succ, List.getElem?_nil, List.set_cons_zero, List.set_cons_succ, if_true, ite_true, Nat.reduceAdd, Nat.reduceSub, List.replicate, Bool.false_eq_true, if_false, Bool.not_true, Bool.not_false, mp_ft, mp_tf, isTy, beq_self_eq_true, isi0, isi1, isi2, isi3, isi4, isi5, isi6, isi7, isi8, isi9, isi10, isi11, isi12, isi13, isi14, isi15, isi16, isi17, isi18, isi19, isi20, isi21, isi22, isi23, isi24, isi25, isi26, isi27, isi28, isi29, isi30, isi31, isi32, isi33, isi34, isi35, isi36, isi37, isi38, isi39, isi40, isi41, onlyF, dIx_tup, dIx_lst, dIx_ref, ixAt_0, ixAt_1, ixAt_2, ixAt_3, iEq_int, iNe_int, dAdd, iAdd, iSub, iNeg, iCmp, iLe, iLt, iGe, iGt, dMul, iMulT, iMul, iMod, iDiv, gIx, setIx, decide_true, decide_false, decide_eq_true_eq, Bool.not_eq_true, List.length_map, gets_ok, gets_bind, gets_ite, rsw_ite, rsw_seq, rsw_thn, rsw_nx, rsw_ret, rst_x, rsx_seq, rsx_nx, rsx_ret, rsx_brk, rsx_cont, rsx_ite, rsx_thn, gets_fnM, onlyP, Option.map_some, Src.items, eS, Mac.len, hr, Mac.read, hst, eO]
      | some p =>
        have hp := hm.st hq (ht1 c List.mem_cons_self) p hst
        simp only [mVar, mK, mBin, mUn, mTru, mTest, mAnd, mOr, mNot, mAndV, mOrV, mNotV, mIf, mNil, mCons, mTup, mLst, mLstF, mCall, mChain, mIsi, fIsi, tyD, tyP, mSlice, oNo, oSome, mSeq, srcOf, mRange1, mRange2, sNext, sSeq, sIf, sRet, sRetN, sExpr, sSet, sAsg, sAug, sFor, sRaise, gSet, gMore, gNone, Mp.gTup, mMeth, fAppend, fLen, fInt, truth, ptruth, asB, pp1, pp2, ret1, dIs, isN, allP, frzD, mFrz, List.map_cons, List.map_nil, List.cons_append, List.nil_append, List.length_cons, List.length_nil, List.getElem?_cons_zero, List.getElem?_cons_succ, List.getElem?_nil, List.set_cons_zero, List.set_cons_succ, if_true, ite_true, Nat.reduceAdd, Nat.reduceSub, List.replicate, Bool.false_eq_true, if_false, Bool.not_true, Bool.not_false, mp_ft, mp_tf, isTy, beq_self_eq_true, isi0, isi1, isi2, isi3, isi4, isi5, isi6, isi7, isi8, isi9, isi10, isi11, isi12, isi13, isi14, isi15, isi16, isi17, isi18, isi19, isi20, isi21, isi22, isi23, isi24, isi25, isi26, isi27, isi28, isi29, isi30, isi31, isi32, isi33, isi34, isi35, isi36, isi37, isi38, isi39, isi40, isi41, onlyF, dIx_tup, dIx_lst, dIx_ref, ixAt_0, ixAt_1, ixAt_2, ixAt_3, iEq_int, iNe_int, dAdd, iAdd, iSub, iNeg, iCmp, iLe, iLt, iGe, iGt, dMul, iMulT, iMul, iMod, iDiv, gIx, setIx, decide_true, decide_false, decide_eq_true_eq, Bool.not_eq_true, List.length_map, gets_ok, gets_bind, gets_ite, rsw_ite, rsw_seq, rsw_thn, rsw_nx, rsw_ret, rst_x, rsx_seq, rsx_nx, rsx_ret, rsx_brk, rsx_cont, rsx_ite, rsx_thn, gets_fnM, onlyP, Option.map_some, Src.items, ix_S0, ix_S1]
        simp only [eS, mVar, mK, mBin, mUn, mTru, mTest, mAnd, mOr, mNot, mAndV, mOrV, mNotV, mIf, mNil, mCons, mTup, mLst, mLstF, mCall, mChain, mIsi, fIsi, tyD, tyP, mSlice, oNo, oSome, mSeq, srcOf, mRange1, mRange2, sNext, sSeq, sIf, sRet, sRetN, sExpr, sSet, sAsg, sAug, sFor, sRaise, gSet, gMore, gNone, Mp.gTup, mMeth, fAppend, fLen, fInt, truth, ptruth, asB, pp1, pp2, ret1, dIs, isN, allP, frzD, mFrz, List.map_cons, List.map_nil, List.cons_append, List.nil_append, List.length_cons, List.length_nil, List.getElem?_cons_zero, List.getElem?_cons_succ, List.getElem?_nil, List.set_cons_zero, List.set_cons_succ, if_true, ite_true, Nat.reduceAdd, Nat.reduceSub, List.replicate, Bool.false_eq_true, if_false, Bool.not_true, Bool.not_false, mp_ft, mp_tf, isTy, beq_self_eq_true, isi0, isi1, isi2, isi3, isi4, isi5, isi6, isi7, isi8, isi9, isi10, isi11, isi12, isi13, isi14, isi15, isi16, isi17, isi18, isi19, isi20, isi21, isi22, isi23, isi24, isi25, isi26, isi27, isi28, isi29, isi30, isi31, isi32, isi33, isi34, isi35, isi36, isi37, isi38, isi39, isi40, isi41, onlyF, dIx_tup, dIx_lst, dIx_ref, ixAt_0, ixAt_1, ixAt_2, ixAt_3, iEq_int, iNe_int, dAdd, iAdd, iSub, iNeg, iCmp, iLe, iLt, iGe, iGt, dMul, iMulT, iMul, iMod, iDiv, gIx, setIx, decide_true, decide_false, decide_eq_true_eq, Bool.not_eq_true, List.length_map, gets_ok, gets_bind, gets_ite, rsw_ite, rsw_seq, rsw_thn, rsw_nx, rsw_ret, rst_x, rsx_seq, rsx_nx, rsx_ret, rsx_brk, rsx_cont, rsx_ite, rsx_thn, gets_fnM, onlyP, Option.map_some, Src.items]
        refine ⟨t1, p.2, f + p.1, some (.p (.int c)), some (.p (eS (some p))), rfl, fun y hy => ht1 y (List.mem_cons_of_mem _ hy), hp.2, ?_, by simp [eS]⟩
        rw [hr, Mac.read, hst]
  · rintro e s' ⟨t1, q, f, e4, e5, hx, ht1, hq, hr, rfl, rfl⟩
    cases t1 with
    | cons c t1 => cases hx
    | nil =>
      simp only [mVar, mK, mBin, mUn, mTru, mTest, mAnd, mOr, mNot, mAndV, mOrV, mNotV, mIf, mNil, mCons, mTup, mLst, mLstF, mCall, mChain, mIsi, fIsi, tyD, tyP, mSlice, oNo, oSome, mSeq, srcOf, mRange1, mRange2, sNext, sSeq, sIf, sRet, sRetN, sExpr, sSet, sAsg, sAug, sFor, sRaise, gSet, gMore, gNone, Mp.gTup, mMeth, fAppend, fLen, fInt, truth, ptruth, asB, pp1, pp2, ret1, dIs, isN, allP, frzD, mFrz, List.map_cons, List.map_nil, List.cons_append, List.nil_append, List.length_cons, List.length_nil, List.getElem?_cons_zero, List.getElem?_cons_succ, List.getElem?_nil, List.set_cons_zero, List.set_cons_succ, if_true, ite_true, Nat.reduceAdd, Nat.reduceSub, List.replicate, Bool.false_eq_true, if_false, Bool.not_true, Bool.not_false, mp_ft, mp_tf, isTy, beq_self_eq_true, isi0, isi1, isi2, isi3, isi4, isi5, isi6, isi7, isi8, isi9, isi10, isi11, isi12, isi13, isi14, isi15, isi16, isi17, isi18, isi19, isi20, isi21, isi22, isi23, isi24, isi25, isi26, isi27, isi28, isi29, isi30, isi31, isi32, isi33, isi34, isi35, isi36, isi37, isi38, isi39, isi40, isi41, onlyF, dIx_tup, dIx_lst, dIx_ref, ixAt_0, ixAt_1, ixAt_2, ixAt_3, iEq_int, iNe_int, dAdd, iAdd, iSub, iNeg, iCmp, iLe, iLt, iGe, iGt, dMul, iMulT, iMul, iMod, iDiv, gIx, setIx, decide_true, decide_false, decide_eq_true_eq, Bool.not_eq_true, List.length_map, gets_ok, gets_bind, gets_ite, rsw_ite, rsw_seq, rsw_thn, rsw_nx, rsw_ret, rst_x, rsx_seq, rsx_nx, rsx_ret, rsx_brk, rsx_cont, rsx_ite, rsx_thn, gets_fnM, onlyP, Option.map_some, Src.items, ix_M1, ix_rs hq, ix_R0]
      have hl : m.len t = (m.row q).fin.map (f + ·) := by simp [Mac.len, hr, Mac.read]
      rw [hl]
      cases (m.row q).fin <;> simp [mVar, mK, mBin, mUn, mTru, mTest, mAnd, mOr, mNot, mAndV, mOrV, mNotV, mIf, mNil, mCons, mTup, mLst, mLstF, mCall, mChain, mIsi, fIsi, tyD, tyP, mSlice, oNo, oSome, mSeq, srcOf, mRange1, mRange2, sNext, sSeq, sIf, sRet, sRetN, sExpr, sSet, sAsg, sAug, sFor, sRaise, gSet, gMore, gNone, Mp.gTup, mMeth, fAppend, fLen, fInt, truth, ptruth, asB, pp1, pp2, ret1, dIs, isN, allP, frzD, mFrz, List.map_cons, List.map_nil, List.cons_append, List.nil_append, List.length_cons, List.length_nil, List.getElem?_cons_zero, List.getElem?_cons_succ, List.getElem?_nil, List.set_cons_zero, List.set_cons_succ, if_true, ite_true, Nat.reduceAdd, Nat.reduceSub, List.replicate, Bool.false_eq_true, if_false, Bool.not_true, Bool.not_false, mp_ft, mp_tf, isTy, beq_self_eq_true, isi0, isi1, isi2, isi3, isi4, isi5, isi6, isi7, isi8, isi9, isi10, isi11, isi12, isi13, isi14, isi15, isi16, isi17, isi18, isi19, isi20, isi21, isi22, isi23, isi24, isi25, isi26, isi27, isi28, isi29, isi30, isi31, isi32, isi33, isi34, isi35, isi36, isi37, isi38, isi39, isi40, isi41, onlyF, dIx_tup, dIx_lst, dIx_ref, ixAt_0, ixAt_1, ixAt_2, ixAt_3, iEq_int, iNe_int, dAdd, iAdd, iSub, iNeg, iCmp, iLe, iLt, iGe, iGt, dMul, iMulT, iMul, iMod, iDiv, gIx, setIx, decide_true, decide_false, decide_eq_true_eq, Bool.not_eq_true, List.length_map, gets_ok, gets_bind, gets_ite, rsw_ite, rsw_seq, rsw_thn, rsw_nx, rsw_ret, rst_x, rsx_seq, rsx_nx, rsx_ret, rsx_brk, rsx_cont, rsx_ite, rsx_thn, gets_fnM, onlyP, Option.map_some, Src.items, eO]
  · exact ⟨t, 0, 0, none, none, rfl, ht, by have := hm.r1; omega, rfl, rfl, rfl⟩

/-! check_text -/
theorem sc_check_text : FnScope ["machine", "thing"] ["machine", "thing"] (defScope t_check_text) := ⟨rfl, rfl, rfl, by decide +kernel, rfl, by decide +kernel, by decide +kernel⟩
theorem bn_check_text : BindN "check_text" t_check_text ["machine", "thing"] := fun _ _ _ _ _ _ us hl => match us, hl with | [_, _], _ => rfl
noncomputable def b_check_text : MS := (sIf (mNot (mTru (mCall M_raw_is_text (mCons (mBin dIx (mVar 0) (mK (.int 0))) (mCons (mVar 1) mNil))))) (sRaise "NoText") sNext)
theorem raw_check_text (N : Nm K mg) : DefOk P w K mg base "check_text" 5 2 (fnM 2 2 b_check_text) := def_mk N.d_check_text sc_check_text bn_check_text rfl rfl fun f cdv A outer s H E hr nd tk hp => (ss_one (s_if (t_not (t_tru (e_callS (ok_raw_is_text N) hr (by decide) tk (a_cons (e_ix (e_var (i := 0)) (e_gint N.i_SIZE)) (a_cons (e_var (i := 1)) a_nil)) (argN_cons (argN_cons argN_nil))))) (ss_one (s_raiseX N.x_NoText tk)) ss_nil))
def M_check_text : List D → S → R D := fun ds s => match ds with
  | [.p (.tuple (.int n :: r)), .p x] => if smallT x then (if isText n x then .ok (.p .none) s else .ex "NoText" [] s) else .bad
  | _ => .bad
theorem ok_check_text (N : Nm K mg) : DefOk P w K mg base "check_text" 5 2 M_check_text := (raw_check_text N).alone.eqv fun ds s => by
  unfold M_check_text
  split
  · rename_i n r x
    split
    · rename_i hz
      left
      cases h : isText n x <;> simp [b_check_text, pureRun, onlyP, fnM, mVar, mK, mBin, mUn, mTru, mTest, mAnd, mOr, mNot, mAndV, mOrV, mNotV, mIf, mNil, mCons, mTup, mLst, mLstF, mCall, mChain, mIsi, fIsi, tyD, tyP, mSlice, oNo, oSome, mSeq, srcOf, mRange1, mRange2, sNext, sSeq, sIf, sRet, sRetN, sExpr, sSet, sAsg, sAug, sFor, sRaise, gSet, gMore, gNone, Mp.gTup, mMeth, fAppend, fLen, fInt, truth, ptruth, asB, pp1, pp2, ret1, dIs, isN, allP, frzD, mFrz, Mp.R.bind, R.thn, RS.seq, List.map_cons, List.map_nil, List.cons_append, List.nil_append, List.length_cons, List.length_nil, List.getElem?_cons_zero, List.getElem?_cons_succ, List.getElem?_nil, List.set_cons_zero, List.set_cons_succ, if_true, ite_true, Nat.reduceAdd, Nat.reduceSub, List.replicate, Bool.false_eq_true, if_false, Bool.not_true, Bool.not_false, mp_ft, mp_tf, isTy, beq_self_eq_true, isi0, isi1, isi2, isi3, isi4, isi5, isi6, isi7, isi8, isi9, isi10, isi11, isi12, isi13, isi14, isi15, isi16, isi17, isi18, isi19, isi20, isi21, isi22, isi23, isi24, isi25, isi26, isi27, isi28, isi29, isi30, isi31, isi32, isi33, isi34, isi35, isi36, isi37, isi38, isi39, isi40, isi41, onlyF, dIx_tup, dIx_lst, dIx_ref, ixAt_0, ixAt_1, ixAt_2, ixAt_3, iEq_int, iNe_int, dAdd, iAdd, iSub, iNeg, iCmp, iLe, iLt, iGe, iGt, dMul, iMulT, iMul, iMod, iDiv, gIx, setIx, decide_true, decide_false, decide_eq_true_eq, Bool.not_eq_true, List.length_map, M_raw_is_text, hz, h]
    · exact .inr rfl
  · exact .inr rfl

/-! length -/
theorem sc_length : FnScope ["machine", "text"] ["machine", "text"] (defScope t_length) := ⟨rfl, rfl, rfl, by decide +kernel, rfl, by decide +kernel, by decide +kernel⟩
theorem bn_length : BindN "length" t_length ["machine", "text"] := fun _ _ _ _ _ _ us hl => match us, hl with | [_, _], _ => rfl
noncomputable def b_length : MS := (sSeq (sExpr (mCall M_check_machine (mCons (mVar 0) mNil))) (sSeq (sExpr (mCall M_check_text (mCons (mVar 0) (mCons (mVar 1) mNil)))) (sRet (mCall M_raw_length (mCons (mVar 0) (mCons (mVar 1) mNil))))))
theorem raw_length (N : Nm K mg) : DefOk P w K mg base "length" 8 2 (fnM 2 2 b_length) := def_mk N.d_length sc_length bn_length rfl rfl fun f cdv A outer s H E hr nd tk hp => (ss_cons (s_expr (e_callS (ok_check_machine N) hr (by decide) tk (a_cons (e_var (i := 0)) a_nil) (argN_cons argN_nil))) (ss_cons (s_expr (e_callS (ok_check_text N) hr (by decide) tk (a_cons (e_var (i := 0)) (a_cons (e_var (i := 1)) a_nil)) (argN_cons (argN_cons argN_nil)))) (ss_one (s_ret (e_callS (ok_raw_length N) hr (by decide) tk (a_cons (e_var (i := 0)) (a_cons (e_var (i := 1)) a_nil)) (argN_cons (argN_cons argN_nil)))))))
noncomputable def M_length : List D → S → R D := pureRun (fnM 2 2 b_length)
theorem ok_length (N : Nm K mg) : DefOk P w K mg base "length" 8 2 M_length := (raw_length N).alone
theorem smallT_eT {t : List Nat} : smallT (eT t) = sizeOk t.length := by simp [eT, smallT]
theorem length_eq {m : Mac} (hm : m.Ok) {t : List Nat} (ht : TxOk m.n t) (hz : t.length ≤ 16777216) {s : S} : M_length [.p (eM m), .p (eT t)] s = .ok (.p (eO (m.len t))) s := by
  have h0 : ∀ s, M_check_text [.p (eM m), .p (eT t)] s = .ok (.p .none) s := fun s => by
    simp [M_check_text, eM, smallT_eT, sizeOk_of hz, isText_eT ht]
  refine pure_eq rfl ?_
  simp [b_length, mVar, mK, mBin, mUn, mTru, mTest, mAnd, mOr, mNot, mAndV, mOrV, mNotV, mIf, mNil, mCons, mTup, mLst, mLstF, mCall, mChain, mIsi, fIsi, tyD, tyP, mSlice, oNo, oSome, mSeq, srcOf, mRange1, mRange2, sNext, sSeq, sIf, sRet, sRetN, sExpr, sSet, sAsg, sAug, sFor, sRaise, gSet, gMore, gNone, Mp.gTup, mMeth, fAppend, fLen, fInt, truth, ptruth, asB, pp1, pp2, ret1, dIs, isN, allP, frzD, mFrz, List.map_cons, List.map_nil, List.cons_append, List.nil_append, List.length_cons, List.length_nil, List.getElem?_cons_zero, List.getElem?_cons_succ, List.getElem?_nil, List.set_cons_zero, List.set_cons_succ, if_true, ite_true, Nat.reduceAdd, Nat.reduceSub, List.replicate, Bool.false_eq_true, if_false, Bool.not_true, Bool.not_false, mp_ft, mp_tf, isTy, beq_self_eq_true, isi0, isi1, isi2, isi3, isi4, isi5, isi6, isi7, isi8, isi9, isi10, isi11, isi12, isi13, isi14, isi15, isi16, isi17, isi18, isi19, isi20, isi21, isi22, isi23, isi24, isi25, isi26, isi27, isi28, isi29, isi30, isi31, isi32, isi33, isi34, isi35, isi36, isi37, isi38, isi39, isi40, isi41, onlyF, dIx_tup, dIx_lst, dIx_ref, ixAt_0, ixAt_1, ixAt_2, ixAt_3, iEq_int, iNe_int, dAdd, iAdd, iSub, iNeg, iCmp, iLe, iLt, iGe, iGt, dMul, iMulT, iMul, iMod, iDiv, gIx, setIx, decide_true, decide_false, decide_eq_true_eq, Bool.not_eq_true, List.length_map, gets_ok, gets_bind, gets_ite, rsw_ite, rsw_seq, rsw_thn, rsw_nx, rsw_ret, rst_x, rsx_seq, rsx_nx, rsx_ret, rsx_brk, rsx_cont, rsx_ite, rsx_thn, gets_fnM, onlyP, Option.map_some, Src.items, M_check_machine, isMachine_eM hm, h0, raw_length_eq hm ht]
theorem length_machine {x y : PyData} (h : isMachine x = false) {s : S} : M_length [.p x, .p y] s = .ex "NoMachine" [] s := by
  simp [M_length, b_length, pureRun, onlyP, fnM, mVar, mK, mBin, mUn, mTru, mTest, mAnd, mOr, mNot, mAndV, mOrV, mNotV, mIf, mNil, mCons, mTup, mLst, mLstF, mCall, mChain, mIsi, fIsi, tyD, tyP, mSlice, oNo, oSome, mSeq, srcOf, mRange1, mRange2, sNext, sSeq, sIf, sRet, sRetN, sExpr, sSet, sAsg, sAug, sFor, sRaise, gSet, gMore, gNone, Mp.gTup, mMeth, fAppend, fLen, fInt, truth, ptruth, asB, pp1, pp2, ret1, dIs, isN, allP, frzD, mFrz, Mp.R.bind, R.thn, RS.seq, List.map_cons, List.map_nil, List.cons_append, List.nil_append, List.length_cons, List.length_nil, List.getElem?_cons_zero, List.getElem?_cons_succ, List.getElem?_nil, List.set_cons_zero, List.set_cons_succ, if_true, ite_true, Nat.reduceAdd, Nat.reduceSub, List.replicate, Bool.false_eq_true, if_false, Bool.not_true, Bool.not_false, mp_ft, mp_tf, isTy, beq_self_eq_true, isi0, isi1, isi2, isi3, isi4, isi5, isi6, isi7, isi8, isi9, isi10, isi11, isi12, isi13, isi14, isi15, isi16, isi17, isi18, isi19, isi20, isi21, isi22, isi23, isi24, isi25, isi26, isi27, isi28, isi29, isi30, isi31, isi32, isi33, isi34, isi35, isi36, isi37, isi38, isi39, isi40, isi41, onlyF, dIx_tup, dIx_lst, dIx_ref, ixAt_0, ixAt_1, ixAt_2, ixAt_3, iEq_int, iNe_int, dAdd, iAdd, iSub, iNeg, iCmp, iLe, iLt, iGe, iGt, dMul, iMulT, iMul, iMod, iDiv, gIx, setIx, decide_true, decide_false, decide_eq_true_eq, Bool.not_eq_true, List.length_map, M_check_machine, h]
theorem length_text {m : Mac} (hm : m.Ok) {y : PyData} (h : isText m.n y = false) (hz : smallT y = true) {s : S} : M_length [.p (eM m), .p y] s = .ex "NoText" [] s := by
  have h0 : ∀ s, M_check_text [.p (eM m), .p y] s = .ex "NoText" [] s := fun s => by
    simp [M_check_text, eM, hz, h]
  simp [M_length, b_length, pureRun, onlyP, fnM, mVar, mK, mBin, mUn, mTru, mTest, mAnd, mOr, mNot, mAndV, mOrV, mNotV, mIf, mNil, mCons, mTup, mLst, mLstF, mCall, mChain, mIsi, fIsi, tyD, tyP, mSlice, oNo, oSome, mSeq, srcOf, mRange1, mRange2, sNext, sSeq, sIf, sRet, sRetN, sExpr, sSet, sAsg, sAug, sFor, sRaise, gSet, gMore, gNone, Mp.gTup, mMeth, fAppend, fLen, fInt, truth, ptruth, asB, pp1, pp2, ret1, dIs, isN, allP, frzD, mFrz, Mp.R.bind, R.thn, RS.seq, List.map_cons, List.map_nil, List.cons_append, List.nil_append, List.length_cons, List.length_nil, List.getElem?_cons_zero, List.getElem?_cons_succ, List.getElem?_nil, List.set_cons_zero, List.set_cons_succ, if_true, ite_true, Nat.reduceAdd, Nat.reduceSub, List.replicate, Bool.false_eq_true, if_false, Bool.not_true, Bool.not_false, mp_ft, mp_tf, isTy, beq_self_eq_true, isi0, isi1, isi2, isi3, isi4, isi5, isi6, isi7, isi8, isi9, isi10, isi11, isi12, isi13, isi14, isi15, isi16, isi17, isi18, isi19, isi20, isi21, isi22, isi23, isi24, isi25, isi26, isi27, isi28, isi29, isi30, isi31, isi32, isi33, isi34, isi35, isi36, isi37, isi38, isi39, isi40, isi41, onlyF, dIx_tup, dIx_lst, dIx_ref, ixAt_0, ixAt_1, ixAt_2, ixAt_3, iEq_int, iNe_int, dAdd, iAdd, iSub, iNeg, iCmp, iLe, iLt, iGe, iGt, dMul, iMulT, iMul, iMod, iDiv, gIx, setIx, decide_true, decide_false, decide_eq_true_eq, Bool.not_eq_true, List.length_map, M_check_machine, isMachine_eM hm, h0]

/-! _law_mixed -/
theorem sc__law_mixed : FnScope ["_law_number"] ["_law_number"] (defScope t__law_mixed) := ⟨rfl, rfl, rfl, by decide +kernel, rfl, by decide +kernel, by decide +kernel⟩
theorem bn__law_mixed : BindN "_law_mixed" t__law_mixed ["_law_number"] := fun _ _ _ _ _ _ us hl => match us, hl with | [_], _ => rfl
noncomputable def b__law_mixed : MS := (sSeq (sSet 0 (mBin (pp2 iMod) (mCall fInt (mCons (mBin dAdd (mBin dMul (mVar 0) (mK (.int 48271))) (mK (.int 11))) mNil)) (mK (.int 2147483647)))) (sSeq (sSet 0 (mBin (pp2 iMod) (mCall fInt (mCons (mBin dAdd (mBin dMul (mVar 0) (mBin dAdd (mBin (pp2 iDiv) (mVar 0) (mK (.int 1009))) (mK (.int 69621)))) (mK (.int 7919))) mNil)) (mK (.int 2147483647)))) (sRet (mBin dAdd (mBin dMul (mVar 0) (mK (.int 2147483399))) (mBin (pp2 iMod) (mCall fInt (mCons (mBin dAdd (mBin dMul (mVar 0) (mBin dAdd (mBin (pp2 iDiv) (mVar 0) (mK (.int 2003))) (mK (.int 40692)))) (mK (.int 104729))) mNil)) (mK (.int 2147483399)))))))
theorem raw__law_mixed (N : Nm K mg) : DefOk P w K mg base "_law_mixed" 1 1 (fnM 1 1 b__law_mixed) := def_mk N.d__law_mixed sc__law_mixed bn__law_mixed rfl rfl fun f cdv A outer s H E hr nd tk hp => (ss_cons (s_set (i := 0) nd (e_bin o_mod (e_ty b_int rfl N.f_int bt_int (a_cons (e_bin o_add (e_bin o_mulT (e_var (i := 0)) e_int) e_int) a_nil)) e_int)) (ss_cons (s_set (i := 0) nd (e_bin o_mod (e_ty b_int rfl N.f_int bt_int (a_cons (e_bin o_add (e_bin o_mulT (e_var (i := 0)) (e_bin o_add (e_bin o_div (e_var (i := 0)) e_int) e_int)) e_int) a_nil)) e_int)) (ss_one (s_ret (e_bin o_add (e_bin o_mulT (e_var (i := 0)) e_int) (e_bin o_mod (e_ty b_int rfl N.f_int bt_int (a_cons (e_bin o_add (e_bin o_mulT (e_var (i := 0)) (e_bin o_add (e_bin o_div (e_var (i := 0)) e_int) e_int)) e_int) a_nil)) e_int))))))
def mixA (n : Int) : Int := (n * 48271 + 11) % 2147483647
def mixB (n : Int) : Int := (mixA n * (mixA n / 1009 + 69621) + 7919) % 2147483647
def mixI (n : Int) : Int := mixB n * 2147483399 + (mixB n * (mixB n / 2003 + 40692) + 104729) % 2147483399
theorem mixA_b (n : Int) : 0 ≤ mixA n ∧ mixA n < 2147483647 := by unfold mixA; omega
theorem mixB_b (n : Int) : 0 ≤ mixB n ∧ mixB n < 2147483647 := by unfold mixB; omega
def M__law_mixed : List D → S → R D := fun ds s => match ds with
  | [.p (.int n)] => .ok (.p (.int (mixI n))) s
  | _ => .bad
theorem ok__law_mixed (N : Nm K mg) : DefOk P w K mg base "_law_mixed" 1 1 M__law_mixed := (raw__law_mixed N).alone.eqv fun ds s => by
  unfold M__law_mixed
  split
  · rename_i n
    left
    have h1 := mixA_b n
    have h2 := mixB_b n
    have e1 : mulOk n 48271 = true := mul_nl (by omega)
    have e2 : mulOk (mixA n) (mixA n / 1009 + 69621) = true := mul_nn (by omega)
    have e3 : mulOk (mixB n) 2147483399 = true := mul_nn (by omega)
    have e4 : mulOk (mixB n) (mixB n / 2003 + 40692) = true := mul_nn (by omega)
    have d1 : divOk 1009 = true := div_ok (by omega)
    have d2 : divOk 2003 = true := div_ok (by omega)
    have p1 : (0:Int) < 2147483647 := by omega
    have p2 : (0:Int) < 2147483399 := by omega
    have f1 : (n * 48271 + 11) % 2147483647 = mixA n := rfl
    have f2 : (mixA n * (mixA n / 1009 + 69621) + 7919) % 2147483647 = mixB n := rfl
    simp only [b__law_mixed, pureRun, onlyP, fnM, mVar, mK, mBin, mUn, mTru, mTest, mAnd, mOr, mNot, mAndV, mOrV, mNotV, mIf, mNil, mCons, mTup, mLst, mLstF, mCall, mChain, mIsi, fIsi, tyD, tyP, mSlice, oNo, oSome, mSeq, srcOf, mRange1, mRange2, sNext, sSeq, sIf, sRet, sRetN, sExpr, sSet, sAsg, sAug, sFor, sRaise, gSet, gMore, gNone, Mp.gTup, mMeth, fAppend, fLen, fInt, truth, ptruth, asB, pp1, pp2, ret1, dIs, isN, allP, frzD, mFrz, Mp.R.bind, R.thn, RS.seq, List.map_cons, List.map_nil, List.cons_append, List.nil_append, List.length_cons, List.length_nil, List.getElem?_cons_zero, List.getElem?_cons_succ, List.getElem?_nil, List.set_cons_zero, List.set_cons_succ, if_true, ite_true, Nat.reduceAdd, Nat.reduceSub, List.replicate, Bool.false_eq_true, if_false, Bool.not_true, Bool.not_false, dAdd, dMul, iMulT, iMul, iAdd, iMod, iDiv, e1, e2, e3, e4, d1, d2, p1, p2, f1, f2, mixI]
  · exact .inr rfl

/-! _law_well -/
theorem sc__law_well : FnScope ["_law_script", "_law_cell"] ["_law_script"] (defScope t__law_well) := ⟨rfl, rfl, rfl, by decide +kernel, rfl, by decide +kernel, by decide +kernel⟩
theorem bn__law_well : BindN "_law_well" t__law_well ["_law_script"] := fun _ _ _ _ _ _ us hl => match us, hl with | [_], _ => rfl
noncomputable def b__law_well : MS := (sRet (mLst (mCons (mLc (mSeq (mSlice (mVar 0) oNo (oSome (mK (.int 63))))) [1] (gSet 1) mYes (mCall fInt (mCons (mVar 1) mNil)) kFrz) (mCons (mK (.int 0)) (mCons (mK (.int 0)) (mCons (mK (.int 1)) mNil))))))
theorem raw__law_well (N : Nm K mg) : DefOk P w K mg base "_law_well" 1 1 (fnM 1 2 b__law_well) := def_mk N.d__law_well sc__law_well bn__law_well rfl rfl fun f cdv A outer s H E hr nd tk hp => (ss_one (s_ret (e_lst (a_cons (e_lcF (own := [("_law_cell", 1)]) rfl nd (i_seq (e_slice (e_var (i := 0)) p_no (p_some e_int))) (blkOk_by (N := ["_law_script", "_law_cell"]) (sc := defScope t__law_well) (own := [("_law_cell", 1)]) (by decide +kernel)) (tg_name (i := 1) (by decide)) (fun _ _ _ _ _ => pg_name (i := 1) nd rfl (by first | exact Or.inl rfl | exact Or.inr rfl)) (fun _ _ _ _ _ => c_no) (fun _ _ _ _ _ => (e_ty b_int rfl N.f_int bt_int (a_cons (e_var (i := 1)) a_nil)))) (a_cons e_int (a_cons e_int (a_cons e_int a_nil)))))))
noncomputable def M__law_well : List D → S → R D := wellRun (fnM 1 2 b__law_well)
theorem ok__law_well (N : Nm K mg) : DefOk P w K mg base "_law_well" 1 1 M__law_well := (raw__law_well N).well
theorem well (ns : List Int) (hl : ns.length ≤ 63) : ∃ w', WA w' ∧ M__law_well [.p (.list (ns.map .int))] ⟨[], []⟩ = .ok (.well 0) ⟨[], w'⟩ := by
  have e : fnM 1 2 b__law_well [.p (.list (ns.map .int))] ⟨[], []⟩ = .ok (.ref 0) ⟨[some (.lst [.p (.list ((cutL ns none (some 63)).map .int)), .p (.int 0), .p (.int 0), .p (.int 1)])], []⟩ := by
    have hc : sizeOk (cutL ns none (some 63)).length = true := sizeOk_of (by
      have := (cutL_sub (xs := ns) (lo := none) (hi := some 63))
      omega)
    have e0 : ∀ w : GH, lcL (Src.fix ((cutL ns none (some 63)).map fun i => D.p (.int i))).ok (gSet 1) mYes (mCall fInt (mCons (mVar 1) mNil)) [some (.p (.list (ns.map .int))), none] ((cutL ns none (some 63)).map fun i => D.p (.int i)) ⟨[], w⟩ = .ok ((cutL ns none (some 63)).map fun i => D.p (.int i)) ⟨[], w⟩ := fun w => lc_map trivial fun x _ => by simp [pureRun, onlyP, fnM, mVar, mK, mBin, mUn, mTru, mTest, mAnd, mOr, mNot, mAndV, mOrV, mNotV, mIf, mNil, mCons, mTup, mLst, mLstF, mCall, mChain, mIsi, fIsi, tyD, tyP, mSlice, oNo, oSome, mSeq, srcOf, mRange1, mRange2, sNext, sSeq, sIf, sRet, sRetN, sExpr, sSet, sAsg, sAug, sFor, sRaise, gSet, gMore, gNone, Mp.gTup, mMeth, fAppend, fLen, fInt, truth, ptruth, asB, pp1, pp2, ret1, dIs, isN, allP, frzD, mFrz, Mp.R.bind, R.thn, RS.seq, List.map_cons, List.map_nil, List.cons_append, List.nil_append, List.length_cons, List.length_nil, List.getElem?_cons_zero, List.getElem?_cons_succ, List.getElem?_nil, List.set_cons_zero, List.set_cons_succ, if_true, ite_true, Nat.reduceAdd, Nat.reduceSub, List.replicate, Bool.false_eq_true, if_false, Bool.not_true, Bool.not_false]
    have z4 : sizeOk 4 = true := by decide
    simp [b__law_well, pureRun, onlyP, fnM, mVar, mK, mBin, mUn, mTru, mTest, mAnd, mOr, mNot, mAndV, mOrV, mNotV, mIf, mNil, mCons, mTup, mLst, mLstF, mCall, mChain, mIsi, fIsi, tyD, tyP, mSlice, oNo, oSome, mSeq, srcOf, mRange1, mRange2, sNext, sSeq, sIf, sRet, sRetN, sExpr, sSet, sAsg, sAug, sFor, sRaise, gSet, gMore, gNone, Mp.gTup, mMeth, fAppend, fLen, fInt, truth, ptruth, asB, pp1, pp2, ret1, dIs, isN, allP, frzD, mFrz, Mp.R.bind, R.thn, RS.seq, List.map_cons, List.map_nil, List.cons_append, List.nil_append, List.length_cons, List.length_nil, List.getElem?_cons_zero, List.getElem?_cons_succ, List.getElem?_nil, List.set_cons_zero, List.set_cons_succ, if_true, ite_true, Nat.reduceAdd, Nat.reduceSub, List.replicate, Bool.false_eq_true, if_false, Bool.not_true, Bool.not_false, mLc, fSlice, wipeE, hc, Src.items, cutL_map, map_map, e0, kFrz, newLst, z4, -List.map_map]
  refine ⟨_, ⟨cutL ns none (some 63), 0, 0, 1, by omega, rfl⟩, ?_⟩
  unfold M__law_well wellRun
  simp only [onlyD, if_true, e]

/-! _law_filled -/
theorem sc__law_filled : FnScope ["_law_well_here", "_law_cell"] ["_law_well_here"] (defScope t__law_filled) := ⟨rfl, rfl, rfl, by decide +kernel, rfl, by decide +kernel, by decide +kernel⟩
theorem bn__law_filled : BindN "_law_filled" t__law_filled ["_law_well_here"] := fun _ _ _ _ _ _ us hl => match us, hl with | [_], _ => rfl
noncomputable def b__law_filled : MS := (sSeq (sAsg (mBin dAdd (mBin dIx (mVar 0) (mK (.int 1))) (mK (.int 1))) (gIx (mVar 0) (mK (.int 1)))) (sSeq (sIf (mTest (mBin (pp2 iLe) (mBin dIx (mVar 0) (mK (.int 1))) (mCall fLen (mCons (mBin dIx (mVar 0) (mK (.int 0))) mNil)))) (sSeq (sSet 1 (mBin dIx (mBin dIx (mVar 0) (mK (.int 0))) (mBin (pp2 iSub) (mBin dIx (mVar 0) (mK (.int 1))) (mK (.int 1))))) (sSeq (sAsg (mBin (pp2 iMod) (mCall fInt (mCons (mBin dAdd (mBin dAdd (mBin dMul (mBin dIx (mVar 0) (mK (.int 3))) (mK (.int 69069))) (mVar 1)) (mK (.int 1))) mNil)) (mK (.int 2147483629))) (gIx (mVar 0) (mK (.int 3)))) (sSeq (sIf (mTest (mBin (pp2 iGe) (mVar 1) (mBin (pp2 iPow) (mK (.int 10)) (mK (.int 18))))) (sRet (mVar 1)) sNext) (sRet (mCall M__law_mixed (mCons (mBin dAdd (mVar 1) (mBin dMul (mK (.int 7919)) (mBin dIx (mVar 0) (mK (.int 1))))) mNil)))))) sNext) (sRet (mCall M__law_mixed (mCons (mBin dAdd (mBin dIx (mVar 0) (mK (.int 3))) (mBin dMul (mK (.int 7919)) (mBin dIx (mVar 0) (mK (.int 1))))) mNil)))))
theorem raw__law_filled (N : Nm K mg) : DefOk P w K mg base "_law_filled" 2 1 (fnM 1 2 b__law_filled) := def_mk N.d__law_filled sc__law_filled bn__law_filled rfl rfl fun f cdv A outer s H E hr nd tk hp => (ss_cons (s_asg (e_bin o_add (e_ix (e_var (i := 0)) e_int) e_int) (g_ix (e_var (i := 0)) e_int)) (ss_cons (s_if (t_cmp o_leP (e_ix (e_var (i := 0)) e_int) (e_bi b_len rfl N.f_len bt_len (a_cons (e_ix (e_var (i := 0)) e_int) a_nil)) (nomark _)) (ss_cons (s_set (i := 1) nd (e_ix (e_ix (e_var (i := 0)) e_int) (e_bin o_sub (e_ix (e_var (i := 0)) e_int) e_int))) (ss_cons (s_asg (e_bin o_mod (e_ty b_int rfl N.f_int bt_int (a_cons (e_bin o_add (e_bin o_add (e_bin o_mulT (e_ix (e_var (i := 0)) e_int) e_int) (e_var (i := 1))) e_int) a_nil)) e_int) (g_ix (e_var (i := 0)) e_int)) (ss_cons (s_if (t_cmp o_geP (e_var (i := 1)) (e_bin o_pow e_int e_int) (nomark _)) (ss_one (s_ret (e_var (i := 1)))) ss_nil) (ss_one (s_ret (e_callS (ok__law_mixed N) hr (by decide) tk (a_cons (e_bin o_add (e_var (i := 1)) (e_bin o_mulT e_int (e_ix (e_var (i := 0)) e_int))) a_nil) (argN_cons argN_nil))))))) ss_nil) (ss_one (s_ret (e_callS (ok__law_mixed N) hr (by decide) tk (a_cons (e_bin o_add (e_ix (e_var (i := 0)) e_int) (e_bin o_mulT e_int (e_ix (e_var (i := 0)) e_int))) a_nil) (argN_cons argN_nil))))))
noncomputable def M__law_filled : List D → S → R D := fnM 1 2 b__law_filled
theorem ok__law_filled (N : Nm K mg) : DefOk P w K mg base "_law_filled" 2 1 M__law_filled := raw__law_filled N
def wellL (ns : List Int) (a b c : Int) : GH := [some (.lst [.p (.list (ns.map .int)), .p (.int a), .p (.int b), .p (.int c)])]
theorem filled (ns : List Int) (a b c : Int) (ha : 0 ≤ a) : ∃ v a' c', 0 ≤ a' ∧ M__law_filled [.ref 0] ⟨wellL ns a b c, []⟩ = .ok (.p (.int v)) ⟨wellL ns a' b c', []⟩ := by
  have e1 : ∀ c : Int, mulOk c 69069 = true := fun c => mul_nl (by omega)
  have e2 : ∀ c : Int, mulOk 7919 c = true := fun c => mul_nn (by omega)
  have p1 : powOk 10 18 = true := by decide
  have p2 : (0:Int) < 2147483629 := by omega
  have i1 : ∀ b c : Int, ∀ x : D, ixAt [x, .p (.int b), .p (.int c)] 0 = some x := fun _ _ _ => rfl
  unfold M__law_filled wellL
  by_cases h : a + 1 ≤ (ns.length : Int)
  · have hn : a.toNat < ns.length := by omega
    have ec : ixAt (ns.map PyData.int) (a + 1 - 1) = some (.int (ns[a.toNat])) := by
      have : a + 1 - 1 = (a.toNat : Int) := by omega
      rw [this, ixAt_nat (by simpa using hn)]
      simp
    by_cases h18 : (1000000000000000000:Int) ≤ ns[a.toNat]
    · refine ⟨ns[a.toNat], a + 1, (c * 69069 + ns[a.toNat] + 1) % 2147483629, by omega, ?_⟩
      simp [b__law_filled, pureRun, onlyP, fnM, mVar, mK, mBin, mUn, mTru, mTest, mAnd, mOr, mNot, mAndV, mOrV, mNotV, mIf, mNil, mCons, mTup, mLst, mLstF, mCall, mChain, mIsi, fIsi, tyD, tyP, mSlice, oNo, oSome, mSeq, srcOf, mRange1, mRange2, sNext, sSeq, sIf, sRet, sRetN, sExpr, sSet, sAsg, sAug, sFor, sRaise, gSet, gMore, gNone, Mp.gTup, mMeth, fAppend, fLen, fInt, truth, ptruth, asB, pp1, pp2, ret1, dIs, isN, allP, frzD, mFrz, Mp.R.bind, R.thn, RS.seq, List.map_cons, List.map_nil, List.cons_append, List.nil_append, List.length_cons, List.length_nil, List.getElem?_cons_zero, List.getElem?_cons_succ, List.getElem?_nil, List.set_cons_zero, List.set_cons_succ, if_true, ite_true, Nat.reduceAdd, Nat.reduceSub, List.replicate, Bool.false_eq_true, if_false, Bool.not_true, Bool.not_false, dIx, ixAt, ixN, atI, dAdd, iAdd, gIx, setIx, iLe, iGe, iCmp, iPow, p1, iMod, dMul, iMulT, iMul, e1, e2, p2, h, iSub]
      simp [ixAt, ixN] at ec
      simp [pureRun, onlyP, fnM, mVar, mK, mBin, mUn, mTru, mTest, mAnd, mOr, mNot, mAndV, mOrV, mNotV, mIf, mNil, mCons, mTup, mLst, mLstF, mCall, mChain, mIsi, fIsi, tyD, tyP, mSlice, oNo, oSome, mSeq, srcOf, mRange1, mRange2, sNext, sSeq, sIf, sRet, sRetN, sExpr, sSet, sAsg, sAug, sFor, sRaise, gSet, gMore, gNone, Mp.gTup, mMeth, fAppend, fLen, fInt, truth, ptruth, asB, pp1, pp2, ret1, dIs, isN, allP, frzD, mFrz, Mp.R.bind, R.thn, RS.seq, List.map_cons, List.map_nil, List.cons_append, List.nil_append, List.length_cons, List.length_nil, List.getElem?_cons_zero, List.getElem?_cons_succ, List.getElem?_nil, List.set_cons_zero, List.set_cons_succ, if_true, ite_true, Nat.reduceAdd, Nat.reduceSub, List.replicate, Bool.false_eq_true, if_false, Bool.not_true, Bool.not_false, mp_ft, mp_tf, isTy, beq_self_eq_true, isi0, isi1, isi2, isi3, isi4, isi5, isi6, isi7, isi8, isi9, isi10, isi11, isi12, isi13, isi14, isi15, isi16, isi17, isi18, isi19, isi20, isi21, isi22, isi23, isi24, isi25, isi26, isi27, isi28, isi29, isi30, isi31, isi32, isi33, isi34, isi35, isi36, isi37, isi38, isi39, isi40, isi41, onlyF, dIx_tup, dIx_lst, dIx_ref, ixAt_0, ixAt_1, ixAt_2, ixAt_3, iEq_int, iNe_int, dAdd, iAdd, iSub, iNeg, iCmp, iLe, iLt, iGe, iGt, dMul, iMulT, iMul, iMod, iDiv, gIx, setIx, decide_true, decide_false, decide_eq_true_eq, Bool.not_eq_true, List.length_map, ixAt, ixN, ec, h18, e1, e2, p1, p2, iPow]
    · refine ⟨mixI (ns[a.toNat] + 7919 * (a + 1)), a + 1, (c * 69069 + ns[a.toNat] + 1) % 2147483629, by omega, ?_⟩
      simp [b__law_filled, pureRun, onlyP, fnM, mVar, mK, mBin, mUn, mTru, mTest, mAnd, mOr, mNot, mAndV, mOrV, mNotV, mIf, mNil, mCons, mTup, mLst, mLstF, mCall, mChain, mIsi, fIsi, tyD, tyP, mSlice, oNo, oSome, mSeq, srcOf, mRange1, mRange2, sNext, sSeq, sIf, sRet, sRetN, sExpr, sSet, sAsg, sAug, sFor, sRaise, gSet, gMore, gNone, Mp.gTup, mMeth, fAppend, fLen, fInt, truth, ptruth, asB, pp1, pp2, ret1, dIs, isN, allP, frzD, mFrz, Mp.R.bind, R.thn, RS.seq, List.map_cons, List.map_nil, List.cons_append, List.nil_append, List.length_cons, List.length_nil, List.getElem?_cons_zero, List.getElem?_cons_succ, List.getElem?_nil, List.set_cons_zero, List.set_cons_succ, if_true, ite_true, Nat.reduceAdd, Nat.reduceSub, List.replicate, Bool.false_eq_true, if_false, Bool.not_true, Bool.not_false, dIx, ixAt, ixN, atI, dAdd, iAdd, gIx, setIx, iLe, iGe, iCmp, iPow, p1, iMod, dMul, iMulT, iMul, e1, e2, p2, h, iSub]
      simp [ixAt, ixN] at ec
      simp [pureRun, onlyP, fnM, mVar, mK, mBin, mUn, mTru, mTest, mAnd, mOr, mNot, mAndV, mOrV, mNotV, mIf, mNil, mCons, mTup, mLst, mLstF, mCall, mChain, mIsi, fIsi, tyD, tyP, mSlice, oNo, oSome, mSeq, srcOf, mRange1, mRange2, sNext, sSeq, sIf, sRet, sRetN, sExpr, sSet, sAsg, sAug, sFor, sRaise, gSet, gMore, gNone, Mp.gTup, mMeth, fAppend, fLen, fInt, truth, ptruth, asB, pp1, pp2, ret1, dIs, isN, allP, frzD, mFrz, Mp.R.bind, R.thn, RS.seq, List.map_cons, List.map_nil, List.cons_append, List.nil_append, List.length_cons, List.length_nil, List.getElem?_cons_zero, List.getElem?_cons_succ, List.getElem?_nil, List.set_cons_zero, List.set_cons_succ, if_true, ite_true, Nat.reduceAdd, Nat.reduceSub, List.replicate, Bool.false_eq_true, if_false, Bool.not_true, Bool.not_false, mp_ft, mp_tf, isTy, beq_self_eq_true, isi0, isi1, isi2, isi3, isi4, isi5, isi6, isi7, isi8, isi9, isi10, isi11, isi12, isi13, isi14, isi15, isi16, isi17, isi18, isi19, isi20, isi21, isi22, isi23, isi24, isi25, isi26, isi27, isi28, isi29, isi30, isi31, isi32, isi33, isi34, isi35, isi36, isi37, isi38, isi39, isi40, isi41, onlyF, dIx_tup, dIx_lst, dIx_ref, ixAt_0, ixAt_1, ixAt_2, ixAt_3, iEq_int, iNe_int, dAdd, iAdd, iSub, iNeg, iCmp, iLe, iLt, iGe, iGt, dMul, iMulT, iMul, iMod, iDiv, gIx, setIx, decide_true, decide_false, decide_eq_true_eq, Bool.not_eq_true, List.length_map, ixAt, ixN, ec, h18, e1, e2, p1, p2, iPow, M__law_mixed]
  · refine ⟨mixI (c + 7919 * (a + 1)), a + 1, c, by omega, ?_⟩
    simp [b__law_filled, pureRun, onlyP, fnM, mVar, mK, mBin, mUn, mTru, mTest, mAnd, mOr, mNot, mAndV, mOrV, mNotV, mIf, mNil, mCons, mTup, mLst, mLstF, mCall, mChain, mIsi, fIsi, tyD, tyP, mSlice, oNo, oSome, mSeq, srcOf, mRange1, mRange2, sNext, sSeq, sIf, sRet, sRetN, sExpr, sSet, sAsg, sAug, sFor, sRaise, gSet, gMore, gNone, Mp.gTup, mMeth, fAppend, fLen, fInt, truth, ptruth, asB, pp1, pp2, ret1, dIs, isN, allP, frzD, mFrz, Mp.R.bind, R.thn, RS.seq, List.map_cons, List.map_nil, List.cons_append, List.nil_append, List.length_cons, List.length_nil, List.getElem?_cons_zero, List.getElem?_cons_succ, List.getElem?_nil, List.set_cons_zero, List.set_cons_succ, if_true, ite_true, Nat.reduceAdd, Nat.reduceSub, List.replicate, Bool.false_eq_true, if_false, Bool.not_true, Bool.not_false, dIx, ixAt, ixN, atI, dAdd, iAdd, gIx, setIx, iLe, iCmp, dMul, iMulT, iMul, e1, e2, h, M__law_mixed]

/-! _law_draw -/
theorem sc__law_draw : FnScope ["_law_well_here", "_law_many", "_law_told_here"] ["_law_well_here", "_law_many"] (defScope t__law_draw) := ⟨rfl, rfl, rfl, by decide +kernel, rfl, by decide +kernel, by decide +kernel⟩
theorem bn__law_draw : BindN "_law_draw" t__law_draw ["_law_well_here", "_law_many"] := fun _ _ _ _ _ _ us hl => match us, hl with | [_, _], _ => rfl
noncomputable def b__law_draw : MS := (sSeq (sIf (mTest (mBin (pp2 iEq) (mBin dIx (mVar 0) (mK (.int 2))) (mK (.int 0)))) (sAsg (mCall M__law_filled (mCons (mVar 0) mNil)) (gIx (mVar 0) (mK (.int 2)))) sNext) (sSeq (sSet 2 (mBin (pp2 iMod) (mCall fInt (mCons (mBin dIx (mVar 0) (mK (.int 2))) mNil)) (mVar 1))) (sSeq (sAsg (mBin (pp2 iDiv) (mCall fInt (mCons (mBin dIx (mVar 0) (mK (.int 2))) mNil)) (mVar 1)) (gIx (mVar 0) (mK (.int 2)))) (sRet (mVar 2)))))
theorem raw__law_draw (N : Nm K mg) : DefOk P w K mg base "_law_draw" 3 2 (fnM 2 3 b__law_draw) := def_mk N.d__law_draw sc__law_draw bn__law_draw rfl rfl fun f cdv A outer s H E hr nd tk hp => (ss_cons (s_if (t_cmp (o_eq hr.units) (e_ix (e_var (i := 0)) e_int) e_int (nomark _)) (ss_one (s_asg (e_callS (ok__law_filled N) hr (by decide) tk (a_cons (e_var (i := 0)) a_nil) (argN_cons argN_nil)) (g_ix (e_var (i := 0)) e_int))) ss_nil) (ss_cons (s_set (i := 2) nd (e_bin o_mod (e_ty b_int rfl N.f_int bt_int (a_cons (e_ix (e_var (i := 0)) e_int) a_nil)) (e_var (i := 1)))) (ss_cons (s_asg (e_bin o_div (e_ty b_int rfl N.f_int bt_int (a_cons (e_ix (e_var (i := 0)) e_int) a_nil)) (e_var (i := 1))) (g_ix (e_var (i := 0)) e_int)) (ss_one (s_ret (e_var (i := 2)))))))
noncomputable def M__law_draw : List D → S → R D := drawRun (fnM 2 3 b__law_draw)
theorem ok__law_draw (N : Nm K mg) : DefOk P w K mg base "_law_draw" 3 2 M__law_draw := (raw__law_draw N).draw
theorem draw {g w : GH} (hw : WA w) (n : Int) (h0 : 0 < n := by decide) (h1 : n < 1073741824 := by decide) : ∃ (r : Int) (w' : GH), 0 ≤ r ∧ r < n ∧ WA w' ∧ M__law_draw [.well 0, .p (.int n)] ⟨g, w⟩ = .ok (.p (.int r)) ⟨g, w'⟩ := by
  obtain ⟨ns, a, b, c, ha, rfl⟩ := hw
  have key : ∃ v a' c', 0 ≤ a' ∧ fnM 2 3 b__law_draw [.ref 0, .p (.int n)] ⟨wellL ns a b c, []⟩ = .ok (.p (.int (v % n))) ⟨wellL ns a' (v / n) c', []⟩ := by
    have d := div_ok (j := n) ⟨h0, h1⟩
    by_cases hb : b = 0
    · obtain ⟨v, a', c', ha', e⟩ := filled ns a b c ha
      refine ⟨v, a', c', ha', ?_⟩
      subst hb
      unfold wellL at e ⊢
      simp [b__law_draw, pureRun, onlyP, fnM, mVar, mK, mBin, mUn, mTru, mTest, mAnd, mOr, mNot, mAndV, mOrV, mNotV, mIf, mNil, mCons, mTup, mLst, mLstF, mCall, mChain, mIsi, fIsi, tyD, tyP, mSlice, oNo, oSome, mSeq, srcOf, mRange1, mRange2, sNext, sSeq, sIf, sRet, sRetN, sExpr, sSet, sAsg, sAug, sFor, sRaise, gSet, gMore, gNone, Mp.gTup, mMeth, fAppend, fLen, fInt, truth, ptruth, asB, pp1, pp2, ret1, dIs, isN, allP, frzD, mFrz, Mp.R.bind, R.thn, RS.seq, List.map_cons, List.map_nil, List.cons_append, List.nil_append, List.length_cons, List.length_nil, List.getElem?_cons_zero, List.getElem?_cons_succ, List.getElem?_nil, List.set_cons_zero, List.set_cons_succ, if_true, ite_true, Nat.reduceAdd, Nat.reduceSub, List.replicate, Bool.false_eq_true, if_false, Bool.not_true, Bool.not_false, dIx, ixAt, ixN, iEq, SeqAt.shaped, PyData.canLay0, PyData.depth, PyData.eqv, e, gIx, setIx, iMod, iDiv, h0, d]
    · refine ⟨b, a, c, ha, ?_⟩
      unfold wellL
      simp [b__law_draw, pureRun, onlyP, fnM, mVar, mK, mBin, mUn, mTru, mTest, mAnd, mOr, mNot, mAndV, mOrV, mNotV, mIf, mNil, mCons, mTup, mLst, mLstF, mCall, mChain, mIsi, fIsi, tyD, tyP, mSlice, oNo, oSome, mSeq, srcOf, mRange1, mRange2, sNext, sSeq, sIf, sRet, sRetN, sExpr, sSet, sAsg, sAug, sFor, sRaise, gSet, gMore, gNone, Mp.gTup, mMeth, fAppend, fLen, fInt, truth, ptruth, asB, pp1, pp2, ret1, dIs, isN, allP, frzD, mFrz, Mp.R.bind, R.thn, RS.seq, List.map_cons, List.map_nil, List.cons_append, List.nil_append, List.length_cons, List.length_nil, List.getElem?_cons_zero, List.getElem?_cons_succ, List.getElem?_nil, List.set_cons_zero, List.set_cons_succ, if_true, ite_true, Nat.reduceAdd, Nat.reduceSub, List.replicate, Bool.false_eq_true, if_false, Bool.not_true, Bool.not_false, dIx, ixAt, ixN, iEq, SeqAt.shaped, PyData.canLay0, PyData.depth, PyData.eqv, hb, gIx, setIx, iMod, iDiv, h0, d]
  obtain ⟨v, a', c', ha', e⟩ := key
  refine ⟨v % n, _, Int.emod_nonneg _ (by omega), Int.emod_lt_of_pos _ h0, ⟨ns, a', v / n, c', ha', rfl⟩, ?_⟩
  unfold M__law_draw drawRun
  unfold wellL at e
  simp only [onlyD, if_true, e]
theorem draw_w {g w : GH} {n : Int} {Q : D → S → Prop} (hw : WA w) (h0 : 0 < n) (h1 : n < 1073741824) (h : ∀ (r : Nat) (w' : GH), (r : Int) < n → WA w' → Q (.p (.int r)) ⟨g, w'⟩) : Gets (M__law_draw [.well 0, .p (.int n)] ⟨g, w⟩) Q := by
  obtain ⟨r, w', h2, h3, h4, e⟩ := draw (g := g) hw n h0 h1
  obtain ⟨k, rfl⟩ := Int.eq_ofNat_of_zero_le h2
  exact ⟨_, _, e, h k w' h3 h4⟩

/-! _law_any -/
theorem sc__law_any : FnScope ["_law_well_here", "_law_deep", "_law_kind", "_law_items", "_law_k"] ["_law_well_here", "_law_deep"] (defScope t__law_any) := ⟨rfl, rfl, rfl, by decide +kernel, rfl, by decide +kernel, by decide +kernel⟩
theorem bn__law_any : BindN "_law_any" t__law_any ["_law_well_here", "_law_deep"] := fun _ _ _ _ _ _ us hl => match us, hl with | [_, _], _ => rfl
noncomputable def b__law_any (R : List D → S → R D) : MS := (sSeq (sSet 2 (mCall M__law_draw (mCons (mVar 0) (mCons (mK (.int 11)) mNil)))) (sSeq (sIf (mTest (mBin (pp2 iEq) (mVar 1) (mK (.int 0)))) (sSet 2 (mBin (pp2 iMod) (mCall fInt (mCons (mVar 2) mNil)) (mK (.int 6)))) sNext) (sSeq (sIf (mTest (mBin (pp2 iEq) (mVar 2) (mK (.int 0)))) (sRet (mBin (pp2 iSub) (mCall M__law_draw (mCons (mVar 0) (mCons (mK (.int 80)) mNil))) (mK (.int 10)))) sNext) (sSeq (sIf (mTest (mBin (pp2 iEq) (mVar 2) (mK (.int 1)))) (sRet (mBin dIx (mLstF (mCons (mUn (pp1 iNeg) (mBin (pp2 iPow) (mK (.int 10)) (mK (.int 29)))) (mCons (mBin (pp2 iPow) (mK (.int 10)) (mK (.int 29))) (mCons (mK (.int 60)) (mCons (mK (.int 61)) (mCons (mK (.int 8)) (mCons (mK (.int 9)) (mCons (mK (.int 30)) mNil)))))))) (mCall M__law_draw (mCons (mVar 0) (mCons (mK (.int 7)) mNil))))) sNext) (sSeq (sIf (mTest (mBin (pp2 iEq) (mVar 2) (mK (.int 2)))) (sRet (mBin (pp2 iEq) (mCall M__law_draw (mCons (mVar 0) (mCons (mK (.int 2)) mNil))) (mK (.int 1)))) sNext) (sSeq (sIf (mTest (mBin (pp2 iEq) (mVar 2) (mK (.int 3)))) (sRet (mK .none)) sNext) (sSeq (sIf (mTest (mBin (pp2 iLe) (mVar 2) (mK (.int 5)))) (sRet (mBin dIx (mLstF (mCons (mK (.str "")) (mCons (mK (.str "0")) (mCons (mK (.str "01")) (mCons (mK (.str "2")) (mCons (mK (.str "-")) (mCons (mK (.str "size 1\n-\n")) (mCons (mK (.str " \n")) mNil)))))))) (mCall M__law_draw (mCons (mVar 0) (mCons (mK (.int 7)) mNil))))) sNext) (sSeq (sSet 3 (mLc (mRange1 (mCall M__law_draw (mCons (mVar 0) (mCons (mK (.int 4)) mNil)))) [4] (gSet 4) mYes (mCall (R) (mCons (mVar 0) (mCons (mBin (pp2 iSub) (mVar 1) (mK (.int 1))) mNil))) kFrz)) (sSeq (sIf (mTest (mBin (pp2 iLe) (mVar 2) (mK (.int 8)))) (sRet (mCall fTuple (mCons (mVar 3) mNil))) sNext) (sSeq (sIf (mTest (mBin (pp2 iEq) (mVar 2) (mK (.int 9)))) (sRet (mVar 3)) sNext) (sRet (mDictF [(.inr "a"), (.inl 1)] (mCons (mVar 3) (mCons (mK .none) mNil))))))))))))))
theorem raw__law_any (N : Nm K mg) : ∀ k, DefOk P w K mg base "_law_any" (3 + k) 2 (recM (fun R => fnM 2 5 (b__law_any R)) k) := def_rec N.d__law_any bn__law_any rfl fun k R hR => def_mk N.d__law_any sc__law_any bn__law_any rfl rfl fun f cdv A outer s H E hr nd tk hp => (ss_cons (s_set (i := 2) nd (e_callS (ok__law_draw N) hr (by omega) tk (a_cons (e_var (i := 0)) (a_cons e_int a_nil)) (argN_cons (argN_cons argN_nil)))) (ss_cons (s_if (t_cmp (o_eq hr.units) (e_var (i := 1)) e_int (nomark _)) (ss_one (s_set (i := 2) nd (e_bin o_mod (e_ty b_int rfl N.f_int bt_int (a_cons (e_var (i := 2)) a_nil)) e_int))) ss_nil) (ss_cons (s_if (t_cmp (o_eq hr.units) (e_var (i := 2)) e_int (nomark _)) (ss_one (s_ret (e_bin o_sub (e_callS (ok__law_draw N) hr (by omega) tk (a_cons (e_var (i := 0)) (a_cons e_int a_nil)) (argN_cons (argN_cons argN_nil))) e_int))) ss_nil) (ss_cons (s_if (t_cmp (o_eq hr.units) (e_var (i := 2)) e_int (nomark _)) (ss_one (s_ret (e_ix (e_lstF (a_cons (e_un o_neg (e_bin o_pow e_int e_int)) (a_cons (e_bin o_pow e_int e_int) (a_cons e_int (a_cons e_int (a_cons e_int (a_cons e_int (a_cons e_int a_nil)))))))) (e_callS (ok__law_draw N) hr (by omega) tk (a_cons (e_var (i := 0)) (a_cons e_int a_nil)) (argN_cons (argN_cons argN_nil)))))) ss_nil) (ss_cons (s_if (t_cmp (o_eq hr.units) (e_var (i := 2)) e_int (nomark _)) (ss_one (s_ret (e_cmp (o_eq hr.units) (e_callS (ok__law_draw N) hr (by omega) tk (a_cons (e_var (i := 0)) (a_cons e_int a_nil)) (argN_cons (argN_cons argN_nil))) e_int (nomark _)))) ss_nil) (ss_cons (s_if (t_cmp (o_eq hr.units) (e_var (i := 2)) e_int (nomark _)) (ss_one (s_ret e_none)) ss_nil) (ss_cons (s_if (t_cmp o_leP (e_var (i := 2)) e_int (nomark _)) (ss_one (s_ret (e_ix (e_lstF (a_cons e_str (a_cons e_str (a_cons e_str (a_cons e_str (a_cons e_str (a_cons e_str (a_cons e_str a_nil)))))))) (e_callS (ok__law_draw N) hr (by omega) tk (a_cons (e_var (i := 0)) (a_cons e_int a_nil)) (argN_cons (argN_cons argN_nil)))))) ss_nil) (ss_cons (s_lcF (i := 3) (own := [("_law_k", 4)]) rfl nd rfl rfl (sw_true rfl rfl rfl (by decide +kernel)) (i_range1 rfl N.f_range (e_callS (ok__law_draw N) hr (by omega) tk (a_cons (e_var (i := 0)) (a_cons e_int a_nil)) (argN_cons (argN_cons argN_nil)))) (blkOk_by (N := ["_law_well_here", "_law_deep", "_law_kind", "_law_items", "_law_k"]) (sc := defScope t__law_any) (own := [("_law_k", 4)]) (by decide +kernel)) (tg_name (i := 4) (by decide)) (fun _ _ _ _ _ => pg_name (i := 4) nd rfl (by first | exact Or.inl rfl | exact Or.inr rfl)) (fun _ _ _ _ _ => c_no) (fun _ _ _ _ _ => (e_callS hR hr (Nat.le_refl _) takes0 (a_cons (e_var (i := 0)) (a_cons (e_bin o_sub (e_var (i := 1)) e_int) a_nil)) (argN_cons (argN_cons argN_nil))))) (ss_cons (s_if (t_cmp o_leP (e_var (i := 2)) e_int (nomark _)) (ss_one (s_ret (e_ty b_tuple rfl N.f_tuple bt_tuple (a_cons (e_var (i := 3)) a_nil)))) ss_nil) (ss_cons (s_if (t_cmp (o_eq hr.units) (e_var (i := 2)) e_int (nomark _)) (ss_one (s_ret (e_var (i := 3)))) ss_nil) (ss_one (s_ret (e_dictF (dp_str (e_var (i := 3)) (dp_int e_none dp_nil)) (by decide +kernel) (by decide))))))))))))))
noncomputable def M__law_any : List D → S → R D := pureRun (recM (fun R => fnM 2 5 (b__law_any R)) 40)
theorem ok__law_any (N : Nm K mg) : DefOk P w K mg base "_law_any" 43 2 M__law_any := (raw__law_any N 40).alone
noncomputable abbrev rAny : Nat → List D → S → R D := recM (fun R => fnM 2 5 (b__law_any R))
theorem ix_data {xs : List PyData} {r : Nat} {s : S} {Q : D → S → Prop} (h : r < xs.length) (hs : ∀ x ∈ xs, smallT x = true) (k : ∀ x, smallT x = true → Q (.p x) s) : Gets (ret1 (ixAt xs (r : Int)) s) Q := ix_w h fun x hx => k x (hs x hx)
theorem any0 {k : Nat} {g w : GH} (hw : WA w) : Gets (rAny (k + 1) [.well 0, .p (.int 0)] ⟨g, w⟩) fun d s => s.g = g ∧ WA s.w ∧ ∃ x, d = .p x ∧ smallT x = true := by
  show Gets (fnM 2 5 (b__law_any (rAny k)) [.well 0, .p (.int 0)] ⟨g, w⟩) _
  have p29 : powOk 10 29 = true := by decide
  have z7 : Mp.sizeOk 7 = true := by decide
  simp only [b__law_any, mVar, mK, mBin, mUn, mTru, mTest, mAnd, mOr, mNot, mAndV, mOrV, mNotV, mIf, mNil, mCons, mTup, mLst, mLstF, mCall, mChain, mIsi, fIsi, tyD, tyP, mSlice, oNo, oSome, mSeq, srcOf, mRange1, mRange2, sNext, sSeq, sIf, sRet, sRetN, sExpr, sSet, sAsg, sAug, sFor, sRaise, gSet, gMore, gNone, Mp.gTup, mMeth, fAppend, fLen, fInt, truth, ptruth, asB, pp1, pp2, ret1, dIs, isN, allP, frzD, mFrz, List.map_cons, List.map_nil, List.cons_append, List.nil_append, List.length_cons, List.length_nil, List.getElem?_cons_zero, List.getElem?_cons_succ, List.getElem?_nil, List.set_cons_zero, List.set_cons_succ, if_true, ite_true, Nat.reduceAdd, Nat.reduceSub, List.replicate, Bool.false_eq_true, if_false, Bool.not_true, Bool.not_false, mp_ft, mp_tf, isTy, beq_self_eq_true, isi0, isi1, isi2, isi3, isi4, isi5, isi6, isi7, isi8, isi9, isi10, isi11, isi12, isi13, isi14, isi15, isi16, isi17, isi18, isi19, isi20, isi21, isi22, isi23, isi24, isi25, isi26, isi27, isi28, isi29, isi30, isi31, isi32, isi33, isi34, isi35, isi36, isi37, isi38, isi39, isi40, isi41, onlyF, dIx_tup, dIx_lst, dIx_ref, ixAt_0, ixAt_1, ixAt_2, ixAt_3, iEq_int, iNe_int, dAdd, iAdd, iSub, iNeg, iCmp, iLe, iLt, iGe, iGt, dMul, iMulT, iMul, iMod, iDiv, gIx, setIx, decide_true, decide_false, decide_eq_true_eq, Bool.not_eq_true, List.length_map, gets_ok, gets_bind, gets_ite, rsw_ite, rsw_seq, rsw_thn, rsw_nx, rsw_ret, rst_x, rsx_seq, rsx_nx, rsx_ret, rsx_brk, rsx_cont, rsx_ite, rsx_thn, gets_fnM, onlyP, Option.map_some, Src.items]
  refine draw_w hw (by decide) (by decide) fun r w1 hr hw1 => ?_
  have p6 : (0 : Int) < 6 := by decide
  simp only [mVar, mK, mBin, mUn, mTru, mTest, mAnd, mOr, mNot, mAndV, mOrV, mNotV, mIf, mNil, mCons, mTup, mLst, mLstF, mCall, mChain, mIsi, fIsi, tyD, tyP, mSlice, oNo, oSome, mSeq, srcOf, mRange1, mRange2, sNext, sSeq, sIf, sRet, sRetN, sExpr, sSet, sAsg, sAug, sFor, sRaise, gSet, gMore, gNone, Mp.gTup, mMeth, fAppend, fLen, fInt, truth, ptruth, asB, pp1, pp2, ret1, dIs, isN, allP, frzD, mFrz, List.map_cons, List.map_nil, List.cons_append, List.nil_append, List.length_cons, List.length_nil, List.getElem?_cons_zero, List.getElem?_cons_succ, List.getElem?_nil, List.set_cons_zero, List.set_cons_succ, if_true, ite_true, Nat.reduceAdd, Nat.reduceSub, List.replicate, Bool.false_eq_true, if_false, Bool.not_true, Bool.not_false, mp_ft, mp_tf, isTy, beq_self_eq_true, isi0, isi1, isi2, isi3, isi4, isi5, isi6, isi7, isi8, isi9, isi10, isi11, isi12, isi13, isi14, isi15, isi16, isi17, isi18, isi19, isi20, isi21, isi22, isi23, isi24, isi25, isi26, isi27, isi28, isi29, isi30, isi31, isi32, isi33, isi34, isi35, isi36, isi37, isi38, isi39, isi40, isi41, onlyF, dIx_tup, dIx_lst, dIx_ref, ixAt_0, ixAt_1, ixAt_2, ixAt_3, iEq_int, iNe_int, dAdd, iAdd, iSub, iNeg, iCmp, iLe, iLt, iGe, iGt, dMul, iMulT, iMul, iMod, iDiv, gIx, setIx, decide_true, decide_false, decide_eq_true_eq, Bool.not_eq_true, List.length_map, gets_ok, gets_bind, gets_ite, rsw_ite, rsw_seq, rsw_thn, rsw_nx, rsw_ret, rst_x, rsx_seq, rsx_nx, rsx_ret, rsx_brk, rsx_cont, rsx_ite, rsx_thn, gets_fnM, onlyP, Option.map_some, Src.items, p6]
  have hv0 : 0 ≤ (r : Int) % 6 := by omega
  have hv6 : (r : Int) % 6 < 6 := by omega
  generalize hv : (r : Int) % 6 = v at hv0 hv6
  by_cases h0 : v = 0
  · simp only [h0, mVar, mK, mBin, mUn, mTru, mTest, mAnd, mOr, mNot, mAndV, mOrV, mNotV, mIf, mNil, mCons, mTup, mLst, mLstF, mCall, mChain, mIsi, fIsi, tyD, tyP, mSlice, oNo, oSome, mSeq, srcOf, mRange1, mRange2, sNext, sSeq, sIf, sRet, sRetN, sExpr, sSet, sAsg, sAug, sFor, sRaise, gSet, gMore, gNone, Mp.gTup, mMeth, fAppend, fLen, fInt, truth, ptruth, asB, pp1, pp2, ret1, dIs, isN, allP, frzD, mFrz, List.map_cons, List.map_nil, List.cons_append, List.nil_append, List.length_cons, List.length_nil, List.getElem?_cons_zero, List.getElem?_cons_succ, List.getElem?_nil, List.set_cons_zero, List.set_cons_succ, if_true, ite_true, Nat.reduceAdd, Nat.reduceSub, List.replicate, Bool.false_eq_true, if_false, Bool.not_true, Bool.not_false, mp_ft, mp_tf, isTy, beq_self_eq_true, isi0, isi1, isi2, isi3, isi4, isi5, isi6, isi7, isi8, isi9, isi10, isi11, isi12, isi13, isi14, isi15, isi16, isi17, isi18, isi19, isi20, isi21, isi22, isi23, isi24, isi25, isi26, isi27, isi28, isi29, isi30, isi31, isi32, isi33, isi34, isi35, isi36, isi37, isi38, isi39, isi40, isi41, onlyF, dIx_tup, dIx_lst, dIx_ref, ixAt_0, ixAt_1, ixAt_2, ixAt_3, iEq_int, iNe_int, dAdd, iAdd, iSub, iNeg, iCmp, iLe, iLt, iGe, iGt, dMul, iMulT, iMul, iMod, iDiv, gIx, setIx, decide_true, decide_false, decide_eq_true_eq, Bool.not_eq_true, List.length_map, gets_ok, gets_bind, gets_ite, rsw_ite, rsw_seq, rsw_thn, rsw_nx, rsw_ret, rst_x, rsx_seq, rsx_nx, rsx_ret, rsx_brk, rsx_cont, rsx_ite, rsx_thn, gets_fnM, onlyP, Option.map_some, Src.items]
    refine draw_w hw1 (by decide) (by decide) fun a w2 ha hw2 => ?_
    simp only [mVar, mK, mBin, mUn, mTru, mTest, mAnd, mOr, mNot, mAndV, mOrV, mNotV, mIf, mNil, mCons, mTup, mLst, mLstF, mCall, mChain, mIsi, fIsi, tyD, tyP, mSlice, oNo, oSome, mSeq, srcOf, mRange1, mRange2, sNext, sSeq, sIf, sRet, sRetN, sExpr, sSet, sAsg, sAug, sFor, sRaise, gSet, gMore, gNone, Mp.gTup, mMeth, fAppend, fLen, fInt, truth, ptruth, asB, pp1, pp2, ret1, dIs, isN, allP, frzD, mFrz, List.map_cons, List.map_nil, List.cons_append, List.nil_append, List.length_cons, List.length_nil, List.getElem?_cons_zero, List.getElem?_cons_succ, List.getElem?_nil, List.set_cons_zero, List.set_cons_succ, if_true, ite_true, Nat.reduceAdd, Nat.reduceSub, List.replicate, Bool.false_eq_true, if_false, Bool.not_true, Bool.not_false, mp_ft, mp_tf, isTy, beq_self_eq_true, isi0, isi1, isi2, isi3, isi4, isi5, isi6, isi7, isi8, isi9, isi10, isi11, isi12, isi13, isi14, isi15, isi16, isi17, isi18, isi19, isi20, isi21, isi22, isi23, isi24, isi25, isi26, isi27, isi28, isi29, isi30, isi31, isi32, isi33, isi34, isi35, isi36, isi37, isi38, isi39, isi40, isi41, onlyF, dIx_tup, dIx_lst, dIx_ref, ixAt_0, ixAt_1, ixAt_2, ixAt_3, iEq_int, iNe_int, dAdd, iAdd, iSub, iNeg, iCmp, iLe, iLt, iGe, iGt, dMul, iMulT, iMul, iMod, iDiv, gIx, setIx, decide_true, decide_false, decide_eq_true_eq, Bool.not_eq_true, List.length_map, gets_ok, gets_bind, gets_ite, rsw_ite, rsw_seq, rsw_thn, rsw_nx, rsw_ret, rst_x, rsx_seq, rsx_nx, rsx_ret, rsx_brk, rsx_cont, rsx_ite, rsx_thn, gets_fnM, onlyP, Option.map_some, Src.items]
    exact ⟨(by simp), hw2, _, rfl, rfl⟩
  by_cases h1 : v = 1
  · simp [h1, mVar, mK, mBin, mUn, mTru, mTest, mAnd, mOr, mNot, mAndV, mOrV, mNotV, mIf, mNil, mCons, mTup, mLst, mLstF, mCall, mChain, mIsi, fIsi, tyD, tyP, mSlice, oNo, oSome, mSeq, srcOf, mRange1, mRange2, sNext, sSeq, sIf, sRet, sRetN, sExpr, sSet, sAsg, sAug, sFor, sRaise, gSet, gMore, gNone, Mp.gTup, mMeth, fAppend, fLen, fInt, truth, ptruth, asB, pp1, pp2, ret1, dIs, isN, allP, frzD, mFrz, List.map_cons, List.map_nil, List.cons_append, List.nil_append, List.length_cons, List.length_nil, List.getElem?_cons_zero, List.getElem?_cons_succ, List.getElem?_nil, List.set_cons_zero, List.set_cons_succ, if_true, ite_true, Nat.reduceAdd, Nat.reduceSub, List.replicate, Bool.false_eq_true, if_false, Bool.not_true, Bool.not_false, mp_ft, mp_tf, isTy, beq_self_eq_true, isi0, isi1, isi2, isi3, isi4, isi5, isi6, isi7, isi8, isi9, isi10, isi11, isi12, isi13, isi14, isi15, isi16, isi17, isi18, isi19, isi20, isi21, isi22, isi23, isi24, isi25, isi26, isi27, isi28, isi29, isi30, isi31, isi32, isi33, isi34, isi35, isi36, isi37, isi38, isi39, isi40, isi41, onlyF, dIx_tup, dIx_lst, dIx_ref, ixAt_0, ixAt_1, ixAt_2, ixAt_3, iEq_int, iNe_int, dAdd, iAdd, iSub, iNeg, iCmp, iLe, iLt, iGe, iGt, dMul, iMulT, iMul, iMod, iDiv, gIx, setIx, decide_true, decide_false, decide_eq_true_eq, Bool.not_eq_true, List.length_map, gets_ok, gets_bind, gets_ite, rsw_ite, rsw_seq, rsw_thn, rsw_nx, rsw_ret, rst_x, rsx_seq, rsx_nx, rsx_ret, rsx_brk, rsx_cont, rsx_ite, rsx_thn, gets_fnM, onlyP, Option.map_some, Src.items, iPow, p29, z7]
    refine draw_w hw1 (by decide) (by decide) fun a w2 ha hw2 => ?_
    simp only [mVar, mK, mBin, mUn, mTru, mTest, mAnd, mOr, mNot, mAndV, mOrV, mNotV, mIf, mNil, mCons, mTup, mLst, mLstF, mCall, mChain, mIsi, fIsi, tyD, tyP, mSlice, oNo, oSome, mSeq, srcOf, mRange1, mRange2, sNext, sSeq, sIf, sRet, sRetN, sExpr, sSet, sAsg, sAug, sFor, sRaise, gSet, gMore, gNone, Mp.gTup, mMeth, fAppend, fLen, fInt, truth, ptruth, asB, pp1, pp2, ret1, dIs, isN, allP, frzD, mFrz, List.map_cons, List.map_nil, List.cons_append, List.nil_append, List.length_cons, List.length_nil, List.getElem?_cons_zero, List.getElem?_cons_succ, List.getElem?_nil, List.set_cons_zero, List.set_cons_succ, if_true, ite_true, Nat.reduceAdd, Nat.reduceSub, List.replicate, Bool.false_eq_true, if_false, Bool.not_true, Bool.not_false, mp_ft, mp_tf, isTy, beq_self_eq_true, isi0, isi1, isi2, isi3, isi4, isi5, isi6, isi7, isi8, isi9, isi10, isi11, isi12, isi13, isi14, isi15, isi16, isi17, isi18, isi19, isi20, isi21, isi22, isi23, isi24, isi25, isi26, isi27, isi28, isi29, isi30, isi31, isi32, isi33, isi34, isi35, isi36, isi37, isi38, isi39, isi40, isi41, onlyF, dIx_tup, dIx_lst, dIx_ref, ixAt_0, ixAt_1, ixAt_2, ixAt_3, iEq_int, iNe_int, dAdd, iAdd, iSub, iNeg, iCmp, iLe, iLt, iGe, iGt, dMul, iMulT, iMul, iMod, iDiv, gIx, setIx, decide_true, decide_false, decide_eq_true_eq, Bool.not_eq_true, List.length_map, gets_ok, gets_bind, gets_ite, rsw_ite, rsw_seq, rsw_thn, rsw_nx, rsw_ret, rst_x, rsx_seq, rsx_nx, rsx_ret, rsx_brk, rsx_cont, rsx_ite, rsx_thn, gets_fnM, onlyP, Option.map_some, Src.items]
    exact ix_data (by simp; omega) (by simp [smallT]) fun x hx => ⟨rfl, hw2, x, rfl, hx⟩
  by_cases h2 : v = 2
  · simp [h2, mVar, mK, mBin, mUn, mTru, mTest, mAnd, mOr, mNot, mAndV, mOrV, mNotV, mIf, mNil, mCons, mTup, mLst, mLstF, mCall, mChain, mIsi, fIsi, tyD, tyP, mSlice, oNo, oSome, mSeq, srcOf, mRange1, mRange2, sNext, sSeq, sIf, sRet, sRetN, sExpr, sSet, sAsg, sAug, sFor, sRaise, gSet, gMore, gNone, Mp.gTup, mMeth, fAppend, fLen, fInt, truth, ptruth, asB, pp1, pp2, ret1, dIs, isN, allP, frzD, mFrz, List.map_cons, List.map_nil, List.cons_append, List.nil_append, List.length_cons, List.length_nil, List.getElem?_cons_zero, List.getElem?_cons_succ, List.getElem?_nil, List.set_cons_zero, List.set_cons_succ, if_true, ite_true, Nat.reduceAdd, Nat.reduceSub, List.replicate, Bool.false_eq_true, if_false, Bool.not_true, Bool.not_false, mp_ft, mp_tf, isTy, beq_self_eq_true, isi0, isi1, isi2, isi3, isi4, isi5, isi6, isi7, isi8, isi9, isi10, isi11, isi12, isi13, isi14, isi15, isi16, isi17, isi18, isi19, isi20, isi21, isi22, isi23, isi24, isi25, isi26, isi27, isi28, isi29, isi30, isi31, isi32, isi33, isi34, isi35, isi36, isi37, isi38, isi39, isi40, isi41, onlyF, dIx_tup, dIx_lst, dIx_ref, ixAt_0, ixAt_1, ixAt_2, ixAt_3, iEq_int, iNe_int, dAdd, iAdd, iSub, iNeg, iCmp, iLe, iLt, iGe, iGt, dMul, iMulT, iMul, iMod, iDiv, gIx, setIx, decide_true, decide_false, decide_eq_true_eq, Bool.not_eq_true, List.length_map, gets_ok, gets_bind, gets_ite, rsw_ite, rsw_seq, rsw_thn, rsw_nx, rsw_ret, rst_x, rsx_seq, rsx_nx, rsx_ret, rsx_brk, rsx_cont, rsx_ite, rsx_thn, gets_fnM, onlyP, Option.map_some, Src.items]
    refine draw_w hw1 (by decide) (by decide) fun a w2 ha hw2 => ?_
    simp only [mVar, mK, mBin, mUn, mTru, mTest, mAnd, mOr, mNot, mAndV, mOrV, mNotV, mIf, mNil, mCons, mTup, mLst, mLstF, mCall, mChain, mIsi, fIsi, tyD, tyP, mSlice, oNo, oSome, mSeq, srcOf, mRange1, mRange2, sNext, sSeq, sIf, sRet, sRetN, sExpr, sSet, sAsg, sAug, sFor, sRaise, gSet, gMore, gNone, Mp.gTup, mMeth, fAppend, fLen, fInt, truth, ptruth, asB, pp1, pp2, ret1, dIs, isN, allP, frzD, mFrz, List.map_cons, List.map_nil, List.cons_append, List.nil_append, List.length_cons, List.length_nil, List.getElem?_cons_zero, List.getElem?_cons_succ, List.getElem?_nil, List.set_cons_zero, List.set_cons_succ, if_true, ite_true, Nat.reduceAdd, Nat.reduceSub, List.replicate, Bool.false_eq_true, if_false, Bool.not_true, Bool.not_false, mp_ft, mp_tf, isTy, beq_self_eq_true, isi0, isi1, isi2, isi3, isi4, isi5, isi6, isi7, isi8, isi9, isi10, isi11, isi12, isi13, isi14, isi15, isi16, isi17, isi18, isi19, isi20, isi21, isi22, isi23, isi24, isi25, isi26, isi27, isi28, isi29, isi30, isi31, isi32, isi33, isi34, isi35, isi36, isi37, isi38, isi39, isi40, isi41, onlyF, dIx_tup, dIx_lst, dIx_ref, ixAt_0, ixAt_1, ixAt_2, ixAt_3, iEq_int, iNe_int, dAdd, iAdd, iSub, iNeg, iCmp, iLe, iLt, iGe, iGt, dMul, iMulT, iMul, iMod, iDiv, gIx, setIx, decide_true, decide_false, decide_eq_true_eq, Bool.not_eq_true, List.length_map, gets_ok, gets_bind, gets_ite, rsw_ite, rsw_seq, rsw_thn, rsw_nx, rsw_ret, rst_x, rsx_seq, rsx_nx, rsx_ret, rsx_brk, rsx_cont, rsx_ite, rsx_thn, gets_fnM, onlyP, Option.map_some, Src.items]
    exact ⟨(by simp), hw2, _, rfl, rfl⟩
  by_cases h3 : v = 3
  · simp [h3, mVar, mK, mBin, mUn, mTru, mTest, mAnd, mOr, mNot, mAndV, mOrV, mNotV, mIf, mNil, mCons, mTup, mLst, mLstF, mCall, mChain, mIsi, fIsi, tyD, tyP, mSlice, oNo, oSome, mSeq, srcOf, mRange1, mRange2, sNext, sSeq, sIf, sRet, sRetN, sExpr, sSet, sAsg, sAug, sFor, sRaise, gSet, gMore, gNone, Mp.gTup, mMeth, fAppend, fLen, fInt, truth, ptruth, asB, pp1, pp2, ret1, dIs, isN, allP, frzD, mFrz, List.map_cons, List.map_nil, List.cons_append, List.nil_append, List.length_cons, List.length_nil, List.getElem?_cons_zero, List.getElem?_cons_succ, List.getElem?_nil, List.set_cons_zero, List.set_cons_succ, if_true, ite_true, Nat.reduceAdd, Nat.reduceSub, List.replicate, Bool.false_eq_true, if_false, Bool.not_true, Bool.not_false, mp_ft, mp_tf, isTy, beq_self_eq_true, isi0, isi1, isi2, isi3, isi4, isi5, isi6, isi7, isi8, isi9, isi10, isi11, isi12, isi13, isi14, isi15, isi16, isi17, isi18, isi19, isi20, isi21, isi22, isi23, isi24, isi25, isi26, isi27, isi28, isi29, isi30, isi31, isi32, isi33, isi34, isi35, isi36, isi37, isi38, isi39, isi40, isi41, onlyF, dIx_tup, dIx_lst, dIx_ref, ixAt_0, ixAt_1, ixAt_2, ixAt_3, iEq_int, iNe_int, dAdd, iAdd, iSub, iNeg, iCmp, iLe, iLt, iGe, iGt, dMul, iMulT, iMul, iMod, iDiv, gIx, setIx, decide_true, decide_false, decide_eq_true_eq, Bool.not_eq_true, List.length_map, gets_ok, gets_bind, gets_ite, rsw_ite, rsw_seq, rsw_thn, rsw_nx, rsw_ret, rst_x, rsx_seq, rsx_nx, rsx_ret, rsx_brk, rsx_cont, rsx_ite, rsx_thn, gets_fnM, onlyP, Option.map_some, Src.items]
    exact ⟨hw1, rfl⟩
  · have h5 : v ≤ 5 := by omega
    simp [h0, h1, h2, h3, h5, mVar, mK, mBin, mUn, mTru, mTest, mAnd, mOr, mNot, mAndV, mOrV, mNotV, mIf, mNil, mCons, mTup, mLst, mLstF, mCall, mChain, mIsi, fIsi, tyD, tyP, mSlice, oNo, oSome, mSeq, srcOf, mRange1, mRange2, sNext, sSeq, sIf, sRet, sRetN, sExpr, sSet, sAsg, sAug, sFor, sRaise, gSet, gMore, gNone, Mp.gTup, mMeth, fAppend, fLen, fInt, truth, ptruth, asB, pp1, pp2, ret1, dIs, isN, allP, frzD, mFrz, List.map_cons, List.map_nil, List.cons_append, List.nil_append, List.length_cons, List.length_nil, List.getElem?_cons_zero, List.getElem?_cons_succ, List.getElem?_nil, List.set_cons_zero, List.set_cons_succ, if_true, ite_true, Nat.reduceAdd, Nat.reduceSub, List.replicate, Bool.false_eq_true, if_false, Bool.not_true, Bool.not_false, mp_ft, mp_tf, isTy, beq_self_eq_true, isi0, isi1, isi2, isi3, isi4, isi5, isi6, isi7, isi8, isi9, isi10, isi11, isi12, isi13, isi14, isi15, isi16, isi17, isi18, isi19, isi20, isi21, isi22, isi23, isi24, isi25, isi26, isi27, isi28, isi29, isi30, isi31, isi32, isi33, isi34, isi35, isi36, isi37, isi38, isi39, isi40, isi41, onlyF, dIx_tup, dIx_lst, dIx_ref, ixAt_0, ixAt_1, ixAt_2, ixAt_3, iEq_int, iNe_int, dAdd, iAdd, iSub, iNeg, iCmp, iLe, iLt, iGe, iGt, dMul, iMulT, iMul, iMod, iDiv, gIx, setIx, decide_true, decide_false, decide_eq_true_eq, Bool.not_eq_true, List.length_map, gets_ok, gets_bind, gets_ite, rsw_ite, rsw_seq, rsw_thn, rsw_nx, rsw_ret, rst_x, rsx_seq, rsx_nx, rsx_ret, rsx_brk, rsx_cont, rsx_ite, rsx_thn, gets_fnM, onlyP, Option.map_some, Src.items, z7]
    refine draw_w hw1 (by decide) (by decide) fun a w2 ha hw2 => ?_
    simp only [mVar, mK, mBin, mUn, mTru, mTest, mAnd, mOr, mNot, mAndV, mOrV, mNotV, mIf, mNil, mCons, mTup, mLst, mLstF, mCall, mChain, mIsi, fIsi, tyD, tyP, mSlice, oNo, oSome, mSeq, srcOf, mRange1, mRange2, sNext, sSeq, sIf, sRet, sRetN, sExpr, sSet, sAsg, sAug, sFor, sRaise, gSet, gMore, gNone, Mp.gTup, mMeth, fAppend, fLen, fInt, truth, ptruth, asB, pp1, pp2, ret1, dIs, isN, allP, frzD, mFrz, List.map_cons, List.map_nil, List.cons_append, List.nil_append, List.length_cons, List.length_nil, List.getElem?_cons_zero, List.getElem?_cons_succ, List.getElem?_nil, List.set_cons_zero, List.set_cons_succ, if_true, ite_true, Nat.reduceAdd, Nat.reduceSub, List.replicate, Bool.false_eq_true, if_false, Bool.not_true, Bool.not_false, mp_ft, mp_tf, isTy, beq_self_eq_true, isi0, isi1, isi2, isi3, isi4, isi5, isi6, isi7, isi8, isi9, isi10, isi11, isi12, isi13, isi14, isi15, isi16, isi17, isi18, isi19, isi20, isi21, isi22, isi23, isi24, isi25, isi26, isi27, isi28, isi29, isi30, isi31, isi32, isi33, isi34, isi35, isi36, isi37, isi38, isi39, isi40, isi41, onlyF, dIx_tup, dIx_lst, dIx_ref, ixAt_0, ixAt_1, ixAt_2, ixAt_3, iEq_int, iNe_int, dAdd, iAdd, iSub, iNeg, iCmp, iLe, iLt, iGe, iGt, dMul, iMulT, iMul, iMod, iDiv, gIx, setIx, decide_true, decide_false, decide_eq_true_eq, Bool.not_eq_true, List.length_map, gets_ok, gets_bind, gets_ite, rsw_ite, rsw_seq, rsw_thn, rsw_nx, rsw_ret, rst_x, rsx_seq, rsx_nx, rsx_ret, rsx_brk, rsx_cont, rsx_ite, rsx_thn, gets_fnM, onlyP, Option.map_some, Src.items]
    exact ix_data (by simp; omega) (by simp [smallT]) fun x hx => ⟨rfl, hw2, x, rfl, hx⟩
theorem any1 {k : Nat} {g w : GH} (hw : WA w) : Gets (rAny (k + 2) [.well 0, .p (.int 1)] ⟨g, w⟩) fun d s => s.g = g ∧ WA s.w ∧ ∃ x, d = .p x ∧ smallT x = true := by
  show Gets (fnM 2 5 (b__law_any (rAny (k + 1))) [.well 0, .p (.int 1)] ⟨g, w⟩) _
  have p29 : powOk 10 29 = true := by decide
  have z7 : Mp.sizeOk 7 = true := by decide
  simp only [b__law_any, mVar, mK, mBin, mUn, mTru, mTest, mAnd, mOr, mNot, mAndV, mOrV, mNotV, mIf, mNil, mCons, mTup, mLst, mLstF, mCall, mChain, mIsi, fIsi, tyD, tyP, mSlice, oNo, oSome, mSeq, srcOf, mRange1, mRange2, sNext, sSeq, sIf, sRet, sRetN, sExpr, sSet, sAsg, sAug, sFor, sRaise, gSet, gMore, gNone, Mp.gTup, mMeth, fAppend, fLen, fInt, truth, ptruth, asB, pp1, pp2, ret1, dIs, isN, allP, frzD, mFrz, List.map_cons, List.map_nil, List.cons_append, List.nil_append, List.length_cons, List.length_nil, List.getElem?_cons_zero, List.getElem?_cons_succ, List.getElem?_nil, List.set_cons_zero, List.set_cons_succ, if_true, ite_true, Nat.reduceAdd, Nat.reduceSub, List.replicate, Bool.false_eq_true, if_false, Bool.not_true, Bool.not_false, mp_ft, mp_tf, isTy, beq_self_eq_true, isi0, isi1, isi2, isi3, isi4, isi5, isi6, isi7, isi8, isi9, isi10, isi11, isi12, isi13, isi14, isi15, isi16, isi17, isi18, isi19, isi20, isi21, isi22, isi23, isi24, isi25, isi26, isi27, isi28, isi29, isi30, isi31, isi32, isi33, isi34, isi35, isi36, isi37, isi38, isi39, isi40, isi41, onlyF, dIx_tup, dIx_lst, dIx_ref, ixAt_0, ixAt_1, ixAt_2, ixAt_3, iEq_int, iNe_int, dAdd, iAdd, iSub, iNeg, iCmp, iLe, iLt, iGe, iGt, dMul, iMulT, iMul, iMod, iDiv, gIx, setIx, decide_true, decide_false, decide_eq_true_eq, Bool.not_eq_true, List.length_map, gets_ok, gets_bind, gets_ite, rsw_ite, rsw_seq, rsw_thn, rsw_nx, rsw_ret, rst_x, rsx_seq, rsx_nx, rsx_ret, rsx_brk, rsx_cont, rsx_ite, rsx_thn, gets_fnM, onlyP, Option.map_some, Src.items]
  refine draw_w hw (by decide) (by decide) fun r w1 hr hw1 => ?_
  have c1 : ¬ ((1 : Int) = 0) := by decide
  simp only [c1, mVar, mK, mBin, mUn, mTru, mTest, mAnd, mOr, mNot, mAndV, mOrV, mNotV, mIf, mNil, mCons, mTup, mLst, mLstF, mCall, mChain, mIsi, fIsi, tyD, tyP, mSlice, oNo, oSome, mSeq, srcOf, mRange1, mRange2, sNext, sSeq, sIf, sRet, sRetN, sExpr, sSet, sAsg, sAug, sFor, sRaise, gSet, gMore, gNone, Mp.gTup, mMeth, fAppend, fLen, fInt, truth, ptruth, asB, pp1, pp2, ret1, dIs, isN, allP, frzD, mFrz, List.map_cons, List.map_nil, List.cons_append, List.nil_append, List.length_cons, List.length_nil, List.getElem?_cons_zero, List.getElem?_cons_succ, List.getElem?_nil, List.set_cons_zero, List.set_cons_succ, if_true, ite_true, Nat.reduceAdd, Nat.reduceSub, List.replicate, Bool.false_eq_true, if_false, Bool.not_true, Bool.not_false, mp_ft, mp_tf, isTy, beq_self_eq_true, isi0, isi1, isi2, isi3, isi4, isi5, isi6, isi7, isi8, isi9, isi10, isi11, isi12, isi13, isi14, isi15, isi16, isi17, isi18, isi19, isi20, isi21, isi22, isi23, isi24, isi25, isi26, isi27, isi28, isi29, isi30, isi31, isi32, isi33, isi34, isi35, isi36, isi37, isi38, isi39, isi40, isi41, onlyF, dIx_tup, dIx_lst, dIx_ref, ixAt_0, ixAt_1, ixAt_2, ixAt_3, iEq_int, iNe_int, dAdd, iAdd, iSub, iNeg, iCmp, iLe, iLt, iGe, iGt, dMul, iMulT, iMul, iMod, iDiv, gIx, setIx, decide_true, decide_false, decide_eq_true_eq, Bool.not_eq_true, List.length_map, gets_ok, gets_bind, gets_ite, rsw_ite, rsw_seq, rsw_thn, rsw_nx, rsw_ret, rst_x, rsx_seq, rsx_nx, rsx_ret, rsx_brk, rsx_cont, rsx_ite, rsx_thn, gets_fnM, onlyP, Option.map_some, Src.items]
  have hv0 : 0 ≤ (r : Int) := by omega
  generalize hv : (r : Int) = v at hr hv0
  by_cases h0 : v = 0
  · simp only [h0, mVar, mK, mBin, mUn, mTru, mTest, mAnd, mOr, mNot, mAndV, mOrV, mNotV, mIf, mNil, mCons, mTup, mLst, mLstF, mCall, mChain, mIsi, fIsi, tyD, tyP, mSlice, oNo, oSome, mSeq, srcOf, mRange1, mRange2, sNext, sSeq, sIf, sRet, sRetN, sExpr, sSet, sAsg, sAug, sFor, sRaise, gSet, gMore, gNone, Mp.gTup, mMeth, fAppend, fLen, fInt, truth, ptruth, asB, pp1, pp2, ret1, dIs, isN, allP, frzD, mFrz, List.map_cons, List.map_nil, List.cons_append, List.nil_append, List.length_cons, List.length_nil, List.getElem?_cons_zero, List.getElem?_cons_succ, List.getElem?_nil, List.set_cons_zero, List.set_cons_succ, if_true, ite_true, Nat.reduceAdd, Nat.reduceSub, List.replicate, Bool.false_eq_true, if_false, Bool.not_true, Bool.not_false, mp_ft, mp_tf, isTy, beq_self_eq_true, isi0, isi1, isi2, isi3, isi4, isi5, isi6, isi7, isi8, isi9, isi10, isi11, isi12, isi13, isi14, isi15, isi16, isi17, isi18, isi19, isi20, isi21, isi22, isi23, isi24, isi25, isi26, isi27, isi28, isi29, isi30, isi31, isi32, isi33, isi34, isi35, isi36, isi37, isi38, isi39, isi40, isi41, onlyF, dIx_tup, dIx_lst, dIx_ref, ixAt_0, ixAt_1, ixAt_2, ixAt_3, iEq_int, iNe_int, dAdd, iAdd, iSub, iNeg, iCmp, iLe, iLt, iGe, iGt, dMul, iMulT, iMul, iMod, iDiv, gIx, setIx, decide_true, decide_false, decide_eq_true_eq, Bool.not_eq_true, List.length_map, gets_ok, gets_bind, gets_ite, rsw_ite, rsw_seq, rsw_thn, rsw_nx, rsw_ret, rst_x, rsx_seq, rsx_nx, rsx_ret, rsx_brk, rsx_cont, rsx_ite, rsx_thn, gets_fnM, onlyP, Option.map_some, Src.items]
    refine draw_w hw1 (by decide) (by decide) fun a w2 ha hw2 => ?_
    simp only [mVar, mK, mBin, mUn, mTru, mTest, mAnd, mOr, mNot, mAndV, mOrV, mNotV, mIf, mNil, mCons, mTup, mLst, mLstF, mCall, mChain, mIsi, fIsi, tyD, tyP, mSlice, oNo, oSome, mSeq, srcOf, mRange1, mRange2, sNext, sSeq, sIf, sRet, sRetN, sExpr, sSet, sAsg, sAug, sFor, sRaise, gSet, gMore, gNone, Mp.gTup, mMeth, fAppend, fLen, fInt, truth, ptruth, asB, pp1, pp2, ret1, dIs, isN, allP, frzD, mFrz, List.map_cons, List.map_nil, List.cons_append, List.nil_append, List.length_cons, List.length_nil, List.getElem?_cons_zero, List.getElem?_cons_succ, List.getElem?_nil, List.set_cons_zero, List.set_cons_succ, if_true, ite_true, Nat.reduceAdd, Nat.reduceSub, List.replicate, Bool.false_eq_true, if_false, Bool.not_true, Bool.not_false, mp_ft, mp_tf, isTy, beq_self_eq_true, isi0, isi1, isi2, isi3, isi4, isi5, isi6, isi7, isi8, isi9, isi10, isi11, isi12, isi13, isi14, isi15, isi16, isi17, isi18, isi19, isi20, isi21, isi22, isi23, isi24, isi25, isi26, isi27, isi28, isi29, isi30, isi31, isi32, isi33, isi34, isi35, isi36, isi37, isi38, isi39, isi40, isi41, onlyF, dIx_tup, dIx_lst, dIx_ref, ixAt_0, ixAt_1, ixAt_2, ixAt_3, iEq_int, iNe_int, dAdd, iAdd, iSub, iNeg, iCmp, iLe, iLt, iGe, iGt, dMul, iMulT, iMul, iMod, iDiv, gIx, setIx, decide_true, decide_false, decide_eq_true_eq, Bool.not_eq_true, List.length_map, gets_ok, gets_bind, gets_ite, rsw_ite, rsw_seq, rsw_thn, rsw_nx, rsw_ret, rst_x, rsx_seq, rsx_nx, rsx_ret, rsx_brk, rsx_cont, rsx_ite, rsx_thn, gets_fnM, onlyP, Option.map_some, Src.items]
    exact ⟨(by simp), hw2, _, rfl, rfl⟩
  by_cases h1 : v = 1
  · simp [h1, mVar, mK, mBin, mUn, mTru, mTest, mAnd, mOr, mNot, mAndV, mOrV, mNotV, mIf, mNil, mCons, mTup, mLst, mLstF, mCall, mChain, mIsi, fIsi, tyD, tyP, mSlice, oNo, oSome, mSeq, srcOf, mRange1, mRange2, sNext, sSeq, sIf, sRet, sRetN, sExpr, sSet, sAsg, sAug, sFor, sRaise, gSet, gMore, gNone, Mp.gTup, mMeth, fAppend, fLen, fInt, truth, ptruth, asB, pp1, pp2, ret1, dIs, isN, allP, frzD, mFrz, List.map_cons, List.map_nil, List.cons_append, List.nil_append, List.length_cons, List.length_nil, List.getElem?_cons_zero, List.getElem?_cons_succ, List.getElem?_nil, List.set_cons_zero, List.set_cons_succ, if_true, ite_true, Nat.reduceAdd, Nat.reduceSub, List.replicate, Bool.false_eq_true, if_false, Bool.not_true, Bool.not_false, mp_ft, mp_tf, isTy, beq_self_eq_true, isi0, isi1, isi2, isi3, isi4, isi5, isi6, isi7, isi8, isi9, isi10, isi11, isi12, isi13, isi14, isi15, isi16, isi17, isi18, isi19, isi20, isi21, isi22, isi23, isi24, isi25, isi26, isi27, isi28, isi29, isi30, isi31, isi32, isi33, isi34, isi35, isi36, isi37, isi38, isi39, isi40, isi41, onlyF, dIx_tup, dIx_lst, dIx_ref, ixAt_0, ixAt_1, ixAt_2, ixAt_3, iEq_int, iNe_int, dAdd, iAdd, iSub, iNeg, iCmp, iLe, iLt, iGe, iGt, dMul, iMulT, iMul, iMod, iDiv, gIx, setIx, decide_true, decide_false, decide_eq_true_eq, Bool.not_eq_true, List.length_map, gets_ok, gets_bind, gets_ite, rsw_ite, rsw_seq, rsw_thn, rsw_nx, rsw_ret, rst_x, rsx_seq, rsx_nx, rsx_ret, rsx_brk, rsx_cont, rsx_ite, rsx_thn, gets_fnM, onlyP, Option.map_some, Src.items, iPow, p29, z7]
    refine draw_w hw1 (by decide) (by decide) fun a w2 ha hw2 => ?_
    simp only [mVar, mK, mBin, mUn, mTru, mTest, mAnd, mOr, mNot, mAndV, mOrV, mNotV, mIf, mNil, mCons, mTup, mLst, mLstF, mCall, mChain, mIsi, fIsi, tyD, tyP, mSlice, oNo, oSome, mSeq, srcOf, mRange1, mRange2, sNext, sSeq, sIf, sRet, sRetN, sExpr, sSet, sAsg, sAug, sFor, sRaise, gSet, gMore, gNone, Mp.gTup, mMeth, fAppend, fLen, fInt, truth, ptruth, asB, pp1, pp2, ret1, dIs, isN, allP, frzD, mFrz, List.map_cons, List.map_nil, List.cons_append, List.nil_append, List.length_cons, List.length_nil, List.getElem?_cons_zero, List.getElem?_cons_succ, List.getElem?_nil, List.set_cons_zero, List.set_cons_succ, if_true, ite_true, Nat.reduceAdd, Nat.reduceSub, List.replicate, Bool.false_eq_true, if_false, Bool.not_true, Bool.not_false, mp_ft, mp_tf, isTy, beq_self_eq_true, isi0, isi1, isi2, isi3, isi4, isi5, isi6, isi7, isi8, isi9, isi10, isi11, isi12, isi13, isi14, isi15, isi16, isi17, isi18, isi19, isi20, isi21, isi22, isi23, isi24, isi25, isi26, isi27, isi28, isi29, isi30, isi31, isi32, isi33, isi34, isi35, isi36, isi37, isi38, isi39, isi40, isi41, onlyF, dIx_tup, dIx_lst, dIx_ref, ixAt_0, ixAt_1, ixAt_2, ixAt_3, iEq_int, iNe_int, dAdd, iAdd, iSub, iNeg, iCmp, iLe, iLt, iGe, iGt, dMul, iMulT, iMul, iMod, iDiv, gIx, setIx, decide_true, decide_false, decide_eq_true_eq, Bool.not_eq_true, List.length_map, gets_ok, gets_bind, gets_ite, rsw_ite, rsw_seq, rsw_thn, rsw_nx, rsw_ret, rst_x, rsx_seq, rsx_nx, rsx_ret, rsx_brk, rsx_cont, rsx_ite, rsx_thn, gets_fnM, onlyP, Option.map_some, Src.items]
    exact ix_data (by simp; omega) (by simp [smallT]) fun x hx => ⟨rfl, hw2, x, rfl, hx⟩
  by_cases h2 : v = 2
  · simp [h2, mVar, mK, mBin, mUn, mTru, mTest, mAnd, mOr, mNot, mAndV, mOrV, mNotV, mIf, mNil, mCons, mTup, mLst, mLstF, mCall, mChain, mIsi, fIsi, tyD, tyP, mSlice, oNo, oSome, mSeq, srcOf, mRange1, mRange2, sNext, sSeq, sIf, sRet, sRetN, sExpr, sSet, sAsg, sAug, sFor, sRaise, gSet, gMore, gNone, Mp.gTup, mMeth, fAppend, fLen, fInt, truth, ptruth, asB, pp1, pp2, ret1, dIs, isN, allP, frzD, mFrz, List.map_cons, List.map_nil, List.cons_append, List.nil_append, List.length_cons, List.length_nil, List.getElem?_cons_zero, List.getElem?_cons_succ, List.getElem?_nil, List.set_cons_zero, List.set_cons_succ, if_true, ite_true, Nat.reduceAdd, Nat.reduceSub, List.replicate, Bool.false_eq_true, if_false, Bool.not_true, Bool.not_false, mp_ft, mp_tf, isTy, beq_self_eq_true, isi0, isi1, isi2, isi3, isi4, isi5, isi6, isi7, isi8, isi9, isi10, isi11, isi12, isi13, isi14, isi15, isi16, isi17, isi18, isi19, isi20, isi21, isi22, isi23, isi24, isi25, isi26, isi27, isi28, isi29, isi30, isi31, isi32, isi33, isi34, isi35, isi36, isi37, isi38, isi39, isi40, isi41, onlyF, dIx_tup, dIx_lst, dIx_ref, ixAt_0, ixAt_1, ixAt_2, ixAt_3, iEq_int, iNe_int, dAdd, iAdd, iSub, iNeg, iCmp, iLe, iLt, iGe, iGt, dMul, iMulT, iMul, iMod, iDiv, gIx, setIx, decide_true, decide_false, decide_eq_true_eq, Bool.not_eq_true, List.length_map, gets_ok, gets_bind, gets_ite, rsw_ite, rsw_seq, rsw_thn, rsw_nx, rsw_ret, rst_x, rsx_seq, rsx_nx, rsx_ret, rsx_brk, rsx_cont, rsx_ite, rsx_thn, gets_fnM, onlyP, Option.map_some, Src.items]
    refine draw_w hw1 (by decide) (by decide) fun a w2 ha hw2 => ?_
    simp only [mVar, mK, mBin, mUn, mTru, mTest, mAnd, mOr, mNot, mAndV, mOrV, mNotV, mIf, mNil, mCons, mTup, mLst, mLstF, mCall, mChain, mIsi, fIsi, tyD, tyP, mSlice, oNo, oSome, mSeq, srcOf, mRange1, mRange2, sNext, sSeq, sIf, sRet, sRetN, sExpr, sSet, sAsg, sAug, sFor, sRaise, gSet, gMore, gNone, Mp.gTup, mMeth, fAppend, fLen, fInt, truth, ptruth, asB, pp1, pp2, ret1, dIs, isN, allP, frzD, mFrz, List.map_cons, List.map_nil, List.cons_append, List.nil_append, List.length_cons, List.length_nil, List.getElem?_cons_zero, List.getElem?_cons_succ, List.getElem?_nil, List.set_cons_zero, List.set_cons_succ, if_true, ite_true, Nat.reduceAdd, Nat.reduceSub, List.replicate, Bool.false_eq_true, if_false, Bool.not_true, Bool.not_false, mp_ft, mp_tf, isTy, beq_self_eq_true, isi0, isi1, isi2, isi3, isi4, isi5, isi6, isi7, isi8, isi9, isi10, isi11, isi12, isi13, isi14, isi15, isi16, isi17, isi18, isi19, isi20, isi21, isi22, isi23, isi24, isi25, isi26, isi27, isi28, isi29, isi30, isi31, isi32, isi33, isi34, isi35, isi36, isi37, isi38, isi39, isi40, isi41, onlyF, dIx_tup, dIx_lst, dIx_ref, ixAt_0, ixAt_1, ixAt_2, ixAt_3, iEq_int, iNe_int, dAdd, iAdd, iSub, iNeg, iCmp, iLe, iLt, iGe, iGt, dMul, iMulT, iMul, iMod, iDiv, gIx, setIx, decide_true, decide_false, decide_eq_true_eq, Bool.not_eq_true, List.length_map, gets_ok, gets_bind, gets_ite, rsw_ite, rsw_seq, rsw_thn, rsw_nx, rsw_ret, rst_x, rsx_seq, rsx_nx, rsx_ret, rsx_brk, rsx_cont, rsx_ite, rsx_thn, gets_fnM, onlyP, Option.map_some, Src.items]
    exact ⟨(by simp), hw2, _, rfl, rfl⟩
  by_cases h3 : v = 3
  · simp [h3, mVar, mK, mBin, mUn, mTru, mTest, mAnd, mOr, mNot, mAndV, mOrV, mNotV, mIf, mNil, mCons, mTup, mLst, mLstF, mCall, mChain, mIsi, fIsi, tyD, tyP, mSlice, oNo, oSome, mSeq, srcOf, mRange1, mRange2, sNext, sSeq, sIf, sRet, sRetN, sExpr, sSet, sAsg, sAug, sFor, sRaise, gSet, gMore, gNone, Mp.gTup, mMeth, fAppend, fLen, fInt, truth, ptruth, asB, pp1, pp2, ret1, dIs, isN, allP, frzD, mFrz, List.map_cons, List.map_nil, List.cons_append, List.nil_append, List.length_cons, List.length_nil, List.getElem?_cons_zero, List.getElem?_cons_succ, List.getElem?_nil, List.set_cons_zero, List.set_cons_succ, if_true, ite_true, Nat.reduceAdd, Nat.reduceSub, List.replicate, Bool.false_eq_true, if_false, Bool.not_true, Bool.not_false, mp_ft, mp_tf, isTy, beq_self_eq_true, isi0, isi1, isi2, isi3, isi4, isi5, isi6, isi7, isi8, isi9, isi10, isi11, isi12, isi13, isi14, isi15, isi16, isi17, isi18, isi19, isi20, isi21, isi22, isi23, isi24, isi25, isi26, isi27, isi28, isi29, isi30, isi31, isi32, isi33, isi34, isi35, isi36, isi37, isi38, isi39, isi40, isi41, onlyF, dIx_tup, dIx_lst, dIx_ref, ixAt_0, ixAt_1, ixAt_2, ixAt_3, iEq_int, iNe_int, dAdd, iAdd, iSub, iNeg, iCmp, iLe, iLt, iGe, iGt, dMul, iMulT, iMul, iMod, iDiv, gIx, setIx, decide_true, decide_false, decide_eq_true_eq, Bool.not_eq_true, List.length_map, gets_ok, gets_bind, gets_ite, rsw_ite, rsw_seq, rsw_thn, rsw_nx, rsw_ret, rst_x, rsx_seq, rsx_nx, rsx_ret, rsx_brk, rsx_cont, rsx_ite, rsx_thn, gets_fnM, onlyP, Option.map_some, Src.items]
    exact ⟨hw1, rfl⟩
  by_cases h5 : v ≤ 5
  · simp [h0, h1, h2, h3, h5, mVar, mK, mBin, mUn, mTru, mTest, mAnd, mOr, mNot, mAndV, mOrV, mNotV, mIf, mNil, mCons, mTup, mLst, mLstF, mCall, mChain, mIsi, fIsi, tyD, tyP, mSlice, oNo, oSome, mSeq, srcOf, mRange1, mRange2, sNext, sSeq, sIf, sRet, sRetN, sExpr, sSet, sAsg, sAug, sFor, sRaise, gSet, gMore, gNone, Mp.gTup, mMeth, fAppend, fLen, fInt, truth, ptruth, asB, pp1, pp2, ret1, dIs, isN, allP, frzD, mFrz, List.map_cons, List.map_nil, List.cons_append, List.nil_append, List.length_cons, List.length_nil, List.getElem?_cons_zero, List.getElem?_cons_succ, List.getElem?_nil, List.set_cons_zero, List.set_cons_succ, if_true, ite_true, Nat.reduceAdd, Nat.reduceSub, List.replicate, Bool.false_eq_true, if_false, Bool.not_true, Bool.not_false, mp_ft, mp_tf, isTy, beq_self_eq_true, isi0, isi1, isi2, isi3, isi4, isi5, isi6, isi7, isi8, isi9, isi10, isi11, isi12, isi13, isi14, isi15, isi16, isi17, isi18, isi19, isi20, isi21, isi22, isi23, isi24, isi25, isi26, isi27, isi28, isi29, isi30, isi31, isi32, isi33, isi34, isi35, isi36, isi37, isi38, isi39, isi40, isi41, onlyF, dIx_tup, dIx_lst, dIx_ref, ixAt_0, ixAt_1, ixAt_2, ixAt_3, iEq_int, iNe_int, dAdd, iAdd, iSub, iNeg, iCmp, iLe, iLt, iGe, iGt, dMul, iMulT, iMul, iMod, iDiv, gIx, setIx, decide_true, decide_false, decide_eq_true_eq, Bool.not_eq_true, List.length_map, gets_ok, gets_bind, gets_ite, rsw_ite, rsw_seq, rsw_thn, rsw_nx, rsw_ret, rst_x, rsx_seq, rsx_nx, rsx_ret, rsx_brk, rsx_cont, rsx_ite, rsx_thn, gets_fnM, onlyP, Option.map_some, Src.items, z7]
    refine draw_w hw1 (by decide) (by decide) fun a w2 ha hw2 => ?_
    simp only [mVar, mK, mBin, mUn, mTru, mTest, mAnd, mOr, mNot, mAndV, mOrV, mNotV, mIf, mNil, mCons, mTup, mLst, mLstF, mCall, mChain, mIsi, fIsi, tyD, tyP, mSlice, oNo, oSome, mSeq, srcOf, mRange1, mRange2, sNext, sSeq, sIf, sRet, sRetN, sExpr, sSet, sAsg, sAug, sFor, sRaise, gSet, gMore, gNone, Mp.gTup, mMeth, fAppend, fLen, fInt, truth, ptruth, asB, pp1, pp2, ret1, dIs, isN, allP, frzD, mFrz, List.map_cons, List.map_nil, List.cons_append, List.nil_append, List.length_cons, List.length_nil, List.getElem?_cons_zero, List.getElem?_cons_succ, List.getElem?_nil, List.set_cons_zero, List.set_cons_succ, if_true, ite_true, Nat.reduceAdd, Nat.reduceSub, List.replicate, Bool.false_eq_true, if_false, Bool.not_true, Bool.not_false, mp_ft, mp_tf, isTy, beq_self_eq_true, isi0, isi1, isi2, isi3, isi4, isi5, isi6, isi7, isi8, isi9, isi10, isi11, isi12, isi13, isi14, isi15, isi16, isi17, isi18, isi19, isi20, isi21, isi22, isi23, isi24, isi25, isi26, isi27, isi28, isi29, isi30, isi31, isi32, isi33, isi34, isi35, isi36, isi37, isi38, isi39, isi40, isi41, onlyF, dIx_tup, dIx_lst, dIx_ref, ixAt_0, ixAt_1, ixAt_2, ixAt_3, iEq_int, iNe_int, dAdd, iAdd, iSub, iNeg, iCmp, iLe, iLt, iGe, iGt, dMul, iMulT, iMul, iMod, iDiv, gIx, setIx, decide_true, decide_false, decide_eq_true_eq, Bool.not_eq_true, List.length_map, gets_ok, gets_bind, gets_ite, rsw_ite, rsw_seq, rsw_thn, rsw_nx, rsw_ret, rst_x, rsx_seq, rsx_nx, rsx_ret, rsx_brk, rsx_cont, rsx_ite, rsx_thn, gets_fnM, onlyP, Option.map_some, Src.items]
    exact ix_data (by simp; omega) (by simp [smallT]) fun x hx => ⟨rfl, hw2, x, rfl, hx⟩
  · simp only [h0, h1, h2, h3, h5, mVar, mK, mBin, mUn, mTru, mTest, mAnd, mOr, mNot, mAndV, mOrV, mNotV, mIf, mNil, mCons, mTup, mLst, mLstF, mCall, mChain, mIsi, fIsi, tyD, tyP, mSlice, oNo, oSome, mSeq, srcOf, mRange1, mRange2, sNext, sSeq, sIf, sRet, sRetN, sExpr, sSet, sAsg, sAug, sFor, sRaise, gSet, gMore, gNone, Mp.gTup, mMeth, fAppend, fLen, fInt, truth, ptruth, asB, pp1, pp2, ret1, dIs, isN, allP, frzD, mFrz, List.map_cons, List.map_nil, List.cons_append, List.nil_append, List.length_cons, List.length_nil, List.getElem?_cons_zero, List.getElem?_cons_succ, List.getElem?_nil, List.set_cons_zero, List.set_cons_succ, if_true, ite_true, Nat.reduceAdd, Nat.reduceSub, List.replicate, Bool.false_eq_true, if_false, Bool.not_true, Bool.not_false, mp_ft, mp_tf, isTy, beq_self_eq_true, isi0, isi1, isi2, isi3, isi4, isi5, isi6, isi7, isi8, isi9, isi10, isi11, isi12, isi13, isi14, isi15, isi16, isi17, isi18, isi19, isi20, isi21, isi22, isi23, isi24, isi25, isi26, isi27, isi28, isi29, isi30, isi31, isi32, isi33, isi34, isi35, isi36, isi37, isi38, isi39, isi40, isi41, onlyF, dIx_tup, dIx_lst, dIx_ref, ixAt_0, ixAt_1, ixAt_2, ixAt_3, iEq_int, iNe_int, dAdd, iAdd, iSub, iNeg, iCmp, iLe, iLt, iGe, iGt, dMul, iMulT, iMul, iMod, iDiv, gIx, setIx, decide_true, decide_false, decide_eq_true_eq, Bool.not_eq_true, List.length_map, gets_ok, gets_bind, gets_ite, rsw_ite, rsw_seq, rsw_thn, rsw_nx, rsw_ret, rst_x, rsx_seq, rsx_nx, rsx_ret, rsx_brk, rsx_cont, rsx_ite, rsx_thn, gets_fnM, onlyP, Option.map_some, Src.items, mLc]
    refine draw_w hw1 (by decide) (by decide) fun a w2 ha hw2 => ?_
    have ro : rngOk 0 (a : Int) := rngOk_of (by omega) (by omega) (by omega) (by omega)
    have zn : Mp.sizeOk (rngItems 0 (a : Int).toNat).length = true := by rw [rng_len]; exact sizeOk_of (by omega)
    simp only [mVar, mK, mBin, mUn, mTru, mTest, mAnd, mOr, mNot, mAndV, mOrV, mNotV, mIf, mNil, mCons, mTup, mLst, mLstF, mCall, mChain, mIsi, fIsi, tyD, tyP, mSlice, oNo, oSome, mSeq, srcOf, mRange1, mRange2, sNext, sSeq, sIf, sRet, sRetN, sExpr, sSet, sAsg, sAug, sFor, sRaise, gSet, gMore, gNone, Mp.gTup, mMeth, fAppend, fLen, fInt, truth, ptruth, asB, pp1, pp2, ret1, dIs, isN, allP, frzD, mFrz, List.map_cons, List.map_nil, List.cons_append, List.nil_append, List.length_cons, List.length_nil, List.getElem?_cons_zero, List.getElem?_cons_succ, List.getElem?_nil, List.set_cons_zero, List.set_cons_succ, if_true, ite_true, Nat.reduceAdd, Nat.reduceSub, List.replicate, Bool.false_eq_true, if_false, Bool.not_true, Bool.not_false, mp_ft, mp_tf, isTy, beq_self_eq_true, isi0, isi1, isi2, isi3, isi4, isi5, isi6, isi7, isi8, isi9, isi10, isi11, isi12, isi13, isi14, isi15, isi16, isi17, isi18, isi19, isi20, isi21, isi22, isi23, isi24, isi25, isi26, isi27, isi28, isi29, isi30, isi31, isi32, isi33, isi34, isi35, isi36, isi37, isi38, isi39, isi40, isi41, onlyF, dIx_tup, dIx_lst, dIx_ref, ixAt_0, ixAt_1, ixAt_2, ixAt_3, iEq_int, iNe_int, dAdd, iAdd, iSub, iNeg, iCmp, iLe, iLt, iGe, iGt, dMul, iMulT, iMul, iMod, iDiv, gIx, setIx, decide_true, decide_false, decide_eq_true_eq, Bool.not_eq_true, List.length_map, gets_ok, gets_bind, gets_ite, rsw_ite, rsw_seq, rsw_thn, rsw_nx, rsw_ret, rst_x, rsx_seq, rsx_nx, rsx_ret, rsx_brk, rsx_cont, rsx_ite, rsx_thn, gets_fnM, onlyP, Option.map_some, Src.items, ro, zn, wipeE]
    refine lc_typed (I := fun s => s.g = g ∧ WA s.w) (P := fun x => smallT x = true) (f := id) (fun _ _ => trivial) ?_ ⟨rfl, hw2⟩ ?_
    · rintro x hx ⟨g', w'⟩ ⟨rfl, hw''⟩
      simp only [mVar, mK, mBin, mUn, mTru, mTest, mAnd, mOr, mNot, mAndV, mOrV, mNotV, mIf, mNil, mCons, mTup, mLst, mLstF, mCall, mChain, mIsi, fIsi, tyD, tyP, mSlice, oNo, oSome, mSeq, srcOf, mRange1, mRange2, sNext, sSeq, sIf, sRet, sRetN, sExpr, sSet, sAsg, sAug, sFor, sRaise, gSet, gMore, gNone, Mp.gTup, mMeth, fAppend, fLen, fInt, truth, ptruth, asB, pp1, pp2, ret1, dIs, isN, allP, frzD, mFrz, List.map_cons, List.map_nil, List.cons_append, List.nil_append, List.length_cons, List.length_nil, List.getElem?_cons_zero, List.getElem?_cons_succ, List.getElem?_nil, List.set_cons_zero, List.set_cons_succ, if_true, ite_true, Nat.reduceAdd, Nat.reduceSub, List.replicate, Bool.false_eq_true, if_false, Bool.not_true, Bool.not_false, mp_ft, mp_tf, isTy, beq_self_eq_true, isi0, isi1, isi2, isi3, isi4, isi5, isi6, isi7, isi8, isi9, isi10, isi11, isi12, isi13, isi14, isi15, isi16, isi17, isi18, isi19, isi20, isi21, isi22, isi23, isi24, isi25, isi26, isi27, isi28, isi29, isi30, isi31, isi32, isi33, isi34, isi35, isi36, isi37, isi38, isi39, isi40, isi41, onlyF, dIx_tup, dIx_lst, dIx_ref, ixAt_0, ixAt_1, ixAt_2, ixAt_3, iEq_int, iNe_int, dAdd, iAdd, iSub, iNeg, iCmp, iLe, iLt, iGe, iGt, dMul, iMulT, iMul, iMod, iDiv, gIx, setIx, decide_true, decide_false, decide_eq_true_eq, Bool.not_eq_true, List.length_map, gets_ok, gets_bind, gets_ite, rsw_ite, rsw_seq, rsw_thn, rsw_nx, rsw_ret, rst_x, rsx_seq, rsx_nx, rsx_ret, rsx_brk, rsx_cont, rsx_ite, rsx_thn, gets_fnM, onlyP, Option.map_some, Src.items]
      refine (any0 hw'').mono fun d s ⟨h1, h2, x, h3, h4⟩ => ⟨⟨h1, h2⟩, x, h4, h3⟩
    · rintro as ⟨g', w'⟩ hla has ⟨rfl, hw''⟩
      rw [rng_len] at hla
      have zl : Mp.sizeOk as.length = true := sizeOk_of (by omega)
      simp only [kFrz, allP_map, mVar, mK, mBin, mUn, mTru, mTest, mAnd, mOr, mNot, mAndV, mOrV, mNotV, mIf, mNil, mCons, mTup, mLst, mLstF, mCall, mChain, mIsi, fIsi, tyD, tyP, mSlice, oNo, oSome, mSeq, srcOf, mRange1, mRange2, sNext, sSeq, sIf, sRet, sRetN, sExpr, sSet, sAsg, sAug, sFor, sRaise, gSet, gMore, gNone, Mp.gTup, mMeth, fAppend, fLen, fInt, truth, ptruth, asB, pp1, pp2, ret1, dIs, isN, allP, frzD, mFrz, List.map_cons, List.map_nil, List.cons_append, List.nil_append, List.length_cons, List.length_nil, List.getElem?_cons_zero, List.getElem?_cons_succ, List.getElem?_nil, List.set_cons_zero, List.set_cons_succ, if_true, ite_true, Nat.reduceAdd, Nat.reduceSub, List.replicate, Bool.false_eq_true, if_false, Bool.not_true, Bool.not_false, mp_ft, mp_tf, isTy, beq_self_eq_true, isi0, isi1, isi2, isi3, isi4, isi5, isi6, isi7, isi8, isi9, isi10, isi11, isi12, isi13, isi14, isi15, isi16, isi17, isi18, isi19, isi20, isi21, isi22, isi23, isi24, isi25, isi26, isi27, isi28, isi29, isi30, isi31, isi32, isi33, isi34, isi35, isi36, isi37, isi38, isi39, isi40, isi41, onlyF, dIx_tup, dIx_lst, dIx_ref, ixAt_0, ixAt_1, ixAt_2, ixAt_3, iEq_int, iNe_int, dAdd, iAdd, iSub, iNeg, iCmp, iLe, iLt, iGe, iGt, dMul, iMulT, iMul, iMod, iDiv, gIx, setIx, decide_true, decide_false, decide_eq_true_eq, Bool.not_eq_true, List.length_map, gets_ok, gets_bind, gets_ite, rsw_ite, rsw_seq, rsw_thn, rsw_nx, rsw_ret, rst_x, rsx_seq, rsx_nx, rsx_ret, rsx_brk, rsx_cont, rsx_ite, rsx_thn, gets_fnM, onlyP, Option.map_some, Src.items, List.map_id]
      by_cases h8 : v ≤ 8
      · simp only [h8, mVar, mK, mBin, mUn, mTru, mTest, mAnd, mOr, mNot, mAndV, mOrV, mNotV, mIf, mNil, mCons, mTup, mLst, mLstF, mCall, mChain, mIsi, fIsi, tyD, tyP, mSlice, oNo, oSome, mSeq, srcOf, mRange1, mRange2, sNext, sSeq, sIf, sRet, sRetN, sExpr, sSet, sAsg, sAug, sFor, sRaise, gSet, gMore, gNone, Mp.gTup, mMeth, fAppend, fLen, fInt, truth, ptruth, asB, pp1, pp2, ret1, dIs, isN, allP, frzD, mFrz, List.map_cons, List.map_nil, List.cons_append, List.nil_append, List.length_cons, List.length_nil, List.getElem?_cons_zero, List.getElem?_cons_succ, List.getElem?_nil, List.set_cons_zero, List.set_cons_succ, if_true, ite_true, Nat.reduceAdd, Nat.reduceSub, List.replicate, Bool.false_eq_true, if_false, Bool.not_true, Bool.not_false, mp_ft, mp_tf, isTy, beq_self_eq_true, isi0, isi1, isi2, isi3, isi4, isi5, isi6, isi7, isi8, isi9, isi10, isi11, isi12, isi13, isi14, isi15, isi16, isi17, isi18, isi19, isi20, isi21, isi22, isi23, isi24, isi25, isi26, isi27, isi28, isi29, isi30, isi31, isi32, isi33, isi34, isi35, isi36, isi37, isi38, isi39, isi40, isi41, onlyF, dIx_tup, dIx_lst, dIx_ref, ixAt_0, ixAt_1, ixAt_2, ixAt_3, iEq_int, iNe_int, dAdd, iAdd, iSub, iNeg, iCmp, iLe, iLt, iGe, iGt, dMul, iMulT, iMul, iMod, iDiv, gIx, setIx, decide_true, decide_false, decide_eq_true_eq, Bool.not_eq_true, List.length_map, gets_ok, gets_bind, gets_ite, rsw_ite, rsw_seq, rsw_thn, rsw_nx, rsw_ret, rst_x, rsx_seq, rsx_nx, rsx_ret, rsx_brk, rsx_cont, rsx_ite, rsx_thn, gets_fnM, onlyP, Option.map_some, Src.items, fTuple, lstP]
        exact ⟨(by simp), hw'', _, rfl, zl⟩
      · by_cases h9 : v = 9
        · simp [h9, mVar, mK, mBin, mUn, mTru, mTest, mAnd, mOr, mNot, mAndV, mOrV, mNotV, mIf, mNil, mCons, mTup, mLst, mLstF, mCall, mChain, mIsi, fIsi, tyD, tyP, mSlice, oNo, oSome, mSeq, srcOf, mRange1, mRange2, sNext, sSeq, sIf, sRet, sRetN, sExpr, sSet, sAsg, sAug, sFor, sRaise, gSet, gMore, gNone, Mp.gTup, mMeth, fAppend, fLen, fInt, truth, ptruth, asB, pp1, pp2, ret1, dIs, isN, allP, frzD, mFrz, List.map_cons, List.map_nil, List.cons_append, List.nil_append, List.length_cons, List.length_nil, List.getElem?_cons_zero, List.getElem?_cons_succ, List.getElem?_nil, List.set_cons_zero, List.set_cons_succ, if_true, ite_true, Nat.reduceAdd, Nat.reduceSub, List.replicate, Bool.false_eq_true, if_false, Bool.not_true, Bool.not_false, mp_ft, mp_tf, isTy, beq_self_eq_true, isi0, isi1, isi2, isi3, isi4, isi5, isi6, isi7, isi8, isi9, isi10, isi11, isi12, isi13, isi14, isi15, isi16, isi17, isi18, isi19, isi20, isi21, isi22, isi23, isi24, isi25, isi26, isi27, isi28, isi29, isi30, isi31, isi32, isi33, isi34, isi35, isi36, isi37, isi38, isi39, isi40, isi41, onlyF, dIx_tup, dIx_lst, dIx_ref, ixAt_0, ixAt_1, ixAt_2, ixAt_3, iEq_int, iNe_int, dAdd, iAdd, iSub, iNeg, iCmp, iLe, iLt, iGe, iGt, dMul, iMulT, iMul, iMod, iDiv, gIx, setIx, decide_true, decide_false, decide_eq_true_eq, Bool.not_eq_true, List.length_map, gets_ok, gets_bind, gets_ite, rsw_ite, rsw_seq, rsw_thn, rsw_nx, rsw_ret, rst_x, rsx_seq, rsx_nx, rsx_ret, rsx_brk, rsx_cont, rsx_ite, rsx_thn, gets_fnM, onlyP, Option.map_some, Src.items]
          exact ⟨hw'', rfl⟩
        · simp [h8, h9, mVar, mK, mBin, mUn, mTru, mTest, mAnd, mOr, mNot, mAndV, mOrV, mNotV, mIf, mNil, mCons, mTup, mLst, mLstF, mCall, mChain, mIsi, fIsi, tyD, tyP, mSlice, oNo, oSome, mSeq, srcOf, mRange1, mRange2, sNext, sSeq, sIf, sRet, sRetN, sExpr, sSet, sAsg, sAug, sFor, sRaise, gSet, gMore, gNone, Mp.gTup, mMeth, fAppend, fLen, fInt, truth, ptruth, asB, pp1, pp2, ret1, dIs, isN, allP, frzD, mFrz, List.map_cons, List.map_nil, List.cons_append, List.nil_append, List.length_cons, List.length_nil, List.getElem?_cons_zero, List.getElem?_cons_succ, List.getElem?_nil, List.set_cons_zero, List.set_cons_succ, if_true, ite_true, Nat.reduceAdd, Nat.reduceSub, List.replicate, Bool.false_eq_true, if_false, Bool.not_true, Bool.not_false, mp_ft, mp_tf, isTy, beq_self_eq_true, isi0, isi1, isi2, isi3, isi4, isi5, isi6, isi7, isi8, isi9, isi10, isi11, isi12, isi13, isi14, isi15, isi16, isi17, isi18, isi19, isi20, isi21, isi22, isi23, isi24, isi25, isi26, isi27, isi28, isi29, isi30, isi31, isi32, isi33, isi34, isi35, isi36, isi37, isi38, isi39, isi40, isi41, onlyF, dIx_tup, dIx_lst, dIx_ref, ixAt_0, ixAt_1, ixAt_2, ixAt_3, iEq_int, iNe_int, dAdd, iAdd, iSub, iNeg, iCmp, iLe, iLt, iGe, iGt, dMul, iMulT, iMul, iMod, iDiv, gIx, setIx, decide_true, decide_false, decide_eq_true_eq, Bool.not_eq_true, List.length_map, gets_ok, gets_bind, gets_ite, rsw_ite, rsw_seq, rsw_thn, rsw_nx, rsw_ret, rst_x, rsx_seq, rsx_nx, rsx_ret, rsx_brk, rsx_cont, rsx_ite, rsx_thn, gets_fnM, onlyP, Option.map_some, Src.items, mDictF]
          exact ⟨hw'', rfl⟩
theorem any_w {g w : GH} {Q : D → S → Prop} (hw : WA w) (h : ∀ x w', smallT x = true → WA w' → Q (.p x) ⟨g, w'⟩) : Gets (M__law_any [.well 0, .p (.int 1)] ⟨g, w⟩) Q :=
  pure_gets rfl ((any1 (k := 38) hw).mono fun d s ⟨_, h2, x, h3, h4⟩ => ⟨x, h3, h x s.w h4 h2⟩)

/-! _law_nodes -/
theorem sc__law_nodes : FnScope ["_law_thing", "_law_item"] ["_law_thing"] (defScope t__law_nodes) := ⟨rfl, rfl, rfl, by decide +kernel, rfl, by decide +kernel, by decide +kernel⟩
theorem bn__law_nodes : BindN "_law_nodes" t__law_nodes ["_law_thing"] := fun _ _ _ _ _ _ us hl => match us, hl with | [_], _ => rfl
noncomputable def b__law_nodes (R : List D → S → R D) : MS := (sSeq (sIf (mTru (mIsi "tuple" (mVar 0))) (sRet (mBin dAdd (mK (.int 1)) (mCall fSum (mCons (mLc (mSeq (mVar 0)) [1] (gSet 1) mYes (mCall (R) (mCons (mVar 1) mNil)) kFrz) mNil)))) sNext) (sRet (mK (.int 1))))
theorem raw__law_nodes (N : Nm K mg) : ∀ k, DefOk P w K mg base "_law_nodes" (0 + k) 1 (recM (fun R => fnM 1 2 (b__law_nodes R)) k) := def_rec N.d__law_nodes bn__law_nodes rfl fun k R hR => def_mk N.d__law_nodes sc__law_nodes bn__law_nodes rfl rfl fun f cdv A outer s H E hr nd tk hp => (ss_cons (s_if (t_tru (e_isi (T := "tuple") (by decide) rfl N.f_isinstance rfl N.f_tuple bt_tuple (e_var (i := 0)))) (ss_one (s_ret (e_bin o_add e_int (e_bi (b_sum rfl) rfl N.f_sum bt_sum (a_cons (e_lcF (own := [("_law_item", 1)]) rfl nd (i_seq (e_var (i := 0))) (blkOk_by (N := ["_law_thing", "_law_item"]) (sc := defScope t__law_nodes) (own := [("_law_item", 1)]) (by decide +kernel)) (tg_name (i := 1) (by decide)) (fun _ _ _ _ _ => pg_name (i := 1) nd rfl (by first | exact Or.inl rfl | exact Or.inr rfl)) (fun _ _ _ _ _ => c_no) (fun _ _ _ _ _ => (e_callS hR hr (Nat.le_refl _) takes0 (a_cons (e_var (i := 1)) a_nil) (argN_cons argN_nil)))) a_nil))))) ss_nil) (ss_one (s_ret e_int)))
noncomputable def M__law_nodes : List D → S → R D := pureRun (recM (fun R => fnM 1 2 (b__law_nodes R)) 40)
theorem ok__law_nodes (N : Nm K mg) : DefOk P w K mg base "_law_nodes" 40 1 M__law_nodes := (raw__law_nodes N 40).alone
theorem nodes_rec {A : Nat} (hA : A ≤ 16777216) : ∀ {d : Nat} {x : PyData} {k : Nat} {s : S}, Fl A d x → recM (fun R => fnM 1 2 (b__law_nodes R)) (k + d + 1) [.p x] s = .ok (.p (.int (nds d x))) s := by
  intro d
  induction d with
  | zero =>
    intro x k s h
    show fnM 1 2 (b__law_nodes _) [.p x] s = _
    rcases h.2 with rfl | ⟨i, rfl⟩ <;> simp [b__law_nodes, pureRun, onlyP, fnM, mVar, mK, mBin, mUn, mTru, mTest, mAnd, mOr, mNot, mAndV, mOrV, mNotV, mIf, mNil, mCons, mTup, mLst, mLstF, mCall, mChain, mIsi, fIsi, tyD, tyP, mSlice, oNo, oSome, mSeq, srcOf, mRange1, mRange2, sNext, sSeq, sIf, sRet, sRetN, sExpr, sSet, sAsg, sAug, sFor, sRaise, gSet, gMore, gNone, Mp.gTup, mMeth, fAppend, fLen, fInt, truth, ptruth, asB, pp1, pp2, ret1, dIs, isN, allP, frzD, mFrz, Mp.R.bind, R.thn, RS.seq, List.map_cons, List.map_nil, List.cons_append, List.nil_append, List.length_cons, List.length_nil, List.getElem?_cons_zero, List.getElem?_cons_succ, List.getElem?_nil, List.set_cons_zero, List.set_cons_succ, if_true, ite_true, Nat.reduceAdd, Nat.reduceSub, List.replicate, Bool.false_eq_true, if_false, Bool.not_true, Bool.not_false, mp_ft, mp_tf, isTy, beq_self_eq_true, isi0, isi1, isi2, isi3, isi4, isi5, isi6, isi7, isi8, isi9, isi10, isi11, isi12, isi13, isi14, isi15, isi16, isi17, isi18, isi19, isi20, isi21, isi22, isi23, isi24, isi25, isi26, isi27, isi28, isi29, isi30, isi31, isi32, isi33, isi34, isi35, isi36, isi37, isi38, isi39, isi40, isi41, onlyF, dIx_tup, dIx_lst, dIx_ref, ixAt_0, ixAt_1, ixAt_2, ixAt_3, iEq_int, iNe_int, dAdd, iAdd, iSub, iNeg, iCmp, iLe, iLt, iGe, iGt, dMul, iMulT, iMul, iMod, iDiv, gIx, setIx, decide_true, decide_false, decide_eq_true_eq, Bool.not_eq_true, List.length_map, nds]
  | succ d ih =>
    intro x k s h
    show fnM 1 2 (b__law_nodes (recM (fun R => fnM 1 2 (b__law_nodes R)) (k + (d + 1)))) [.p x] s = _
    have ih' : ∀ x s, Fl A d x → recM (fun R => fnM 1 2 (b__law_nodes R)) (k + (d + 1)) [.p x] s = .ok (.p (.int (nds d x))) s := fun x s hx => ih hx
    generalize recM (fun R => fnM 1 2 (b__law_nodes R)) (k + (d + 1)) = Rc at ih' ⊢
    rcases h with ⟨ps, rfl, hl, hp⟩ | rfl | ⟨i, rfl⟩
    · have zl : Mp.sizeOk ps.length = true := sizeOk_of (by omega)
      have e0 : ∀ s, lcL (Src.fix (ps.map D.p)).ok (gSet 1) mYes (mCall Rc (mCons (mVar 1) mNil)) [some (.p (.tuple ps)), none] (ps.map D.p) s = .ok (ps.map fun x => D.p (.int (nds d x))) s := fun s => lc_map trivial fun x hx => by
        simp only [pureRun, onlyP, fnM, mVar, mK, mBin, mUn, mTru, mTest, mAnd, mOr, mNot, mAndV, mOrV, mNotV, mIf, mNil, mCons, mTup, mLst, mLstF, mCall, mChain, mIsi, fIsi, tyD, tyP, mSlice, oNo, oSome, mSeq, srcOf, mRange1, mRange2, sNext, sSeq, sIf, sRet, sRetN, sExpr, sSet, sAsg, sAug, sFor, sRaise, gSet, gMore, gNone, Mp.gTup, mMeth, fAppend, fLen, fInt, truth, ptruth, asB, pp1, pp2, ret1, dIs, isN, allP, frzD, mFrz, Mp.R.bind, R.thn, RS.seq, List.map_cons, List.map_nil, List.cons_append, List.nil_append, List.length_cons, List.length_nil, List.getElem?_cons_zero, List.getElem?_cons_succ, List.getElem?_nil, List.set_cons_zero, List.set_cons_succ, if_true, ite_true, Nat.reduceAdd, Nat.reduceSub, List.replicate, Bool.false_eq_true, if_false, Bool.not_true, Bool.not_false, mp_ft, mp_tf, isTy, beq_self_eq_true, isi0, isi1, isi2, isi3, isi4, isi5, isi6, isi7, isi8, isi9, isi10, isi11, isi12, isi13, isi14, isi15, isi16, isi17, isi18, isi19, isi20, isi21, isi22, isi23, isi24, isi25, isi26, isi27, isi28, isi29, isi30, isi31, isi32, isi33, isi34, isi35, isi36, isi37, isi38, isi39, isi40, isi41, onlyF, dIx_tup, dIx_lst, dIx_ref, ixAt_0, ixAt_1, ixAt_2, ixAt_3, iEq_int, iNe_int, dAdd, iAdd, iSub, iNeg, iCmp, iLe, iLt, iGe, iGt, dMul, iMulT, iMul, iMod, iDiv, gIx, setIx, decide_true, decide_false, decide_eq_true_eq, Bool.not_eq_true, List.length_map]
        exact ih' x _ (hp x hx)
      have hsum : (ps.map fun x => (nds d x : Int)).sum = (((ps.map (nds d)).sum : Nat) : Int) := by
        clear e0 zl hl hp
        induction ps with
        | nil => rfl
        | cons p ps ih => simp [ih]
      simp [b__law_nodes, pureRun, onlyP, fnM, mVar, mK, mBin, mUn, mTru, mTest, mAnd, mOr, mNot, mAndV, mOrV, mNotV, mIf, mNil, mCons, mTup, mLst, mLstF, mCall, mChain, mIsi, fIsi, tyD, tyP, mSlice, oNo, oSome, mSeq, srcOf, mRange1, mRange2, sNext, sSeq, sIf, sRet, sRetN, sExpr, sSet, sAsg, sAug, sFor, sRaise, gSet, gMore, gNone, Mp.gTup, mMeth, fAppend, fLen, fInt, truth, ptruth, asB, pp1, pp2, ret1, dIs, isN, allP, frzD, mFrz, Mp.R.bind, R.thn, RS.seq, List.map_cons, List.map_nil, List.cons_append, List.nil_append, List.length_cons, List.length_nil, List.getElem?_cons_zero, List.getElem?_cons_succ, List.getElem?_nil, List.set_cons_zero, List.set_cons_succ, if_true, ite_true, Nat.reduceAdd, Nat.reduceSub, List.replicate, Bool.false_eq_true, if_false, Bool.not_true, Bool.not_false, mp_ft, mp_tf, isTy, beq_self_eq_true, isi0, isi1, isi2, isi3, isi4, isi5, isi6, isi7, isi8, isi9, isi10, isi11, isi12, isi13, isi14, isi15, isi16, isi17, isi18, isi19, isi20, isi21, isi22, isi23, isi24, isi25, isi26, isi27, isi28, isi29, isi30, isi31, isi32, isi33, isi34, isi35, isi36, isi37, isi38, isi39, isi40, isi41, onlyF, dIx_tup, dIx_lst, dIx_ref, ixAt_0, ixAt_1, ixAt_2, ixAt_3, iEq_int, iNe_int, dAdd, iAdd, iSub, iNeg, iCmp, iLe, iLt, iGe, iGt, dMul, iMulT, iMul, iMod, iDiv, gIx, setIx, decide_true, decide_false, decide_eq_true_eq, Bool.not_eq_true, List.length_map, mLc, wipeE, Src.items, zl, e0, kFrz, fSum, lstP, allP_map, allI_map, -List.map_map, nds, hsum]
    · simp [b__law_nodes, pureRun, onlyP, fnM, mVar, mK, mBin, mUn, mTru, mTest, mAnd, mOr, mNot, mAndV, mOrV, mNotV, mIf, mNil, mCons, mTup, mLst, mLstF, mCall, mChain, mIsi, fIsi, tyD, tyP, mSlice, oNo, oSome, mSeq, srcOf, mRange1, mRange2, sNext, sSeq, sIf, sRet, sRetN, sExpr, sSet, sAsg, sAug, sFor, sRaise, gSet, gMore, gNone, Mp.gTup, mMeth, fAppend, fLen, fInt, truth, ptruth, asB, pp1, pp2, ret1, dIs, isN, allP, frzD, mFrz, Mp.R.bind, R.thn, RS.seq, List.map_cons, List.map_nil, List.cons_append, List.nil_append, List.length_cons, List.length_nil, List.getElem?_cons_zero, List.getElem?_cons_succ, List.getElem?_nil, List.set_cons_zero, List.set_cons_succ, if_true, ite_true, Nat.reduceAdd, Nat.reduceSub, List.replicate, Bool.false_eq_true, if_false, Bool.not_true, Bool.not_false, mp_ft, mp_tf, isTy, beq_self_eq_true, isi0, isi1, isi2, isi3, isi4, isi5, isi6, isi7, isi8, isi9, isi10, isi11, isi12, isi13, isi14, isi15, isi16, isi17, isi18, isi19, isi20, isi21, isi22, isi23, isi24, isi25, isi26, isi27, isi28, isi29, isi30, isi31, isi32, isi33, isi34, isi35, isi36, isi37, isi38, isi39, isi40, isi41, onlyF, dIx_tup, dIx_lst, dIx_ref, ixAt_0, ixAt_1, ixAt_2, ixAt_3, iEq_int, iNe_int, dAdd, iAdd, iSub, iNeg, iCmp, iLe, iLt, iGe, iGt, dMul, iMulT, iMul, iMod, iDiv, gIx, setIx, decide_true, decide_false, decide_eq_true_eq, Bool.not_eq_true, List.length_map, nds]
    · simp [b__law_nodes, pureRun, onlyP, fnM, mVar, mK, mBin, mUn, mTru, mTest, mAnd, mOr, mNot, mAndV, mOrV, mNotV, mIf, mNil, mCons, mTup, mLst, mLstF, mCall, mChain, mIsi, fIsi, tyD, tyP, mSlice, oNo, oSome, mSeq, srcOf, mRange1, mRange2, sNext, sSeq, sIf, sRet, sRetN, sExpr, sSet, sAsg, sAug, sFor, sRaise, gSet, gMore, gNone, Mp.gTup, mMeth, fAppend, fLen, fInt, truth, ptruth, asB, pp1, pp2, ret1, dIs, isN, allP, frzD, mFrz, Mp.R.bind, R.thn, RS.seq, List.map_cons, List.map_nil, List.cons_append, List.nil_append, List.length_cons, List.length_nil, List.getElem?_cons_zero, List.getElem?_cons_succ, List.getElem?_nil, List.set_cons_zero, List.set_cons_succ, if_true, ite_true, Nat.reduceAdd, Nat.reduceSub, List.replicate, Bool.false_eq_true, if_false, Bool.not_true, Bool.not_false, mp_ft, mp_tf, isTy, beq_self_eq_true, isi0, isi1, isi2, isi3, isi4, isi5, isi6, isi7, isi8, isi9, isi10, isi11, isi12, isi13, isi14, isi15, isi16, isi17, isi18, isi19, isi20, isi21, isi22, isi23, isi24, isi25, isi26, isi27, isi28, isi29, isi30, isi31, isi32, isi33, isi34, isi35, isi36, isi37, isi38, isi39, isi40, isi41, onlyF, dIx_tup, dIx_lst, dIx_ref, ixAt_0, ixAt_1, ixAt_2, ixAt_3, iEq_int, iNe_int, dAdd, iAdd, iSub, iNeg, iCmp, iLe, iLt, iGe, iGt, dMul, iMulT, iMul, iMod, iDiv, gIx, setIx, decide_true, decide_false, decide_eq_true_eq, Bool.not_eq_true, List.length_map, nds]
theorem nodes_eq {A d : Nat} {x : PyData} (hA : A ≤ 16777216) (hd : d ≤ 39) (h : Fl A d x) {s : S} : M__law_nodes [.p x] s = .ok (.p (.int (nds d x))) s := by
  refine pure_eq rfl ?_
  have := nodes_rec hA (k := 39 - d) (s := ⟨[], s.w⟩) h
  rw [show 39 - d + d + 1 = 40 by omega] at this
  exact ⟨_, _, this, rfl, rfl⟩

/-! _law_changed -/
theorem sc__law_changed : FnScope ["_law_thing", "_law_well_here", "_law_kind", "_law_turned"] ["_law_thing", "_law_well_here"] (defScope t__law_changed) := ⟨rfl, rfl, rfl, by decide +kernel, rfl, by decide +kernel, by decide +kernel⟩
theorem bn__law_changed : BindN "_law_changed" t__law_changed ["_law_thing", "_law_well_here"] := fun _ _ _ _ _ _ us hl => match us, hl with | [_, _], _ => rfl
noncomputable def b__law_changed : MS := (sSeq (sSet 2 (mCall M__law_draw (mCons (mVar 1) (mCons (mK (.int 9)) mNil)))) (sSeq (sIf (mTest (mBin (pp2 iEq) (mVar 2) (mK (.int 0)))) (sRet (mCall M__law_any (mCons (mVar 1) (mCons (mK (.int 1)) mNil)))) sNext) (sSeq (sIf (mOr (mTest (mBin (dIs true) (mVar 0) (mK .none))) (mTru (mIsi "bool" (mVar 0)))) (sRet (mBin dIx (mLstF (mCons (mK (.int 0)) (mCons (mK (.int 1)) (mCons (mTup mNil) (mCons (mTup (mCons (mK (.int 0)) (mCons (mK (.int 0)) mNil))) (mCons (mTup (mCons (mK (.int 1)) (mCons (mK (.int 0)) mNil))) (mCons (mK (.str "-")) (mCons (mLstF mNil) (mCons (mTup (mCons (mK .none) (mCons (mK .none) mNil))) mNil))))))))) (mBin (pp2 iSub) (mVar 2) (mK (.int 1))))) sNext) (sSeq (sIf (mTru (mIsi "int" (mVar 0))) (sRet (mBin dIx (mLstF (mCons (mBin dAdd (mVar 0) (mK (.int 1))) (mCons (mBin (pp2 iSub) (mVar 0) (mK (.int 1))) (mCons (mUn (pp1 iNeg) (mVar 0)) (mCons (mBin (pp2 iGe) (mVar 0) (mK (.int 1))) (mCons (mK (.int 0)) (mCons (mK (.int 61)) (mCons (mK .none) (mCons (mTup (mCons (mVar 0) mNil)) mNil))))))))) (mBin (pp2 iSub) (mVar 2) (mK (.int 1))))) sNext) (sSeq (sIf (mTru (mIsi "str" (mVar 0))) (sRet (mBin dIx (mLstF (mCons (mBin dAdd (mVar 0) (mK (.str "0"))) (mCons (mSlice (mVar 0) (oSome (mK (.int 1))) oNo) (mCons (mBin dAdd (mVar 0) (mK (.str "2"))) (mCons (mBin dAdd (mK (.str " ")) (mVar 0)) (mCons (mK (.str "")) (mCons (mBin dAdd (mVar 0) (mK (.str "\n"))) (mCons (mLstF (mCons (mVar 0) mNil)) (mCons (mK .none) mNil))))))))) (mBin (pp2 iSub) (mVar 2) (mK (.int 1))))) sNext) (sSeq (sIf (mTru (mIsi "tuple" (mVar 0))) (sSeq (sSet 3 (mLstF (mCons (mSlice (mVar 0) (oSome (mK (.int 1))) oNo) (mCons (mSlice (mVar 0) oNo (oSome (mUn (pp1 iNeg) (mK (.int 1))))) (mCons (mBin dAdd (mSlice (mVar 0) (oSome (mK (.int 1))) oNo) (mSlice (mVar 0) oNo (oSome (mK (.int 1))))) (mCons (mBin dAdd (mSlice (mVar 0) oNo (oSome (mK (.int 1)))) (mVar 0)) (mCons (mBin dAdd (mVar 0) (mTup (mCons (mK .none) mNil))) (mCons (mCall fListF (mCons (mVar 0) mNil)) mNil)))))))) (sRet (mBin dIx (mBin dAdd (mVar 3) (mLstF (mCons (mK .none) (mCons (mBin dMul (mVar 0) (mK (.int 2))) mNil)))) (mBin (pp2 iSub) (mVar 2) (mK (.int 1)))))) sNext) (sRet (mVar 0))))))))
theorem raw__law_changed (N : Nm K mg) : DefOk P w K mg base "_law_changed" 44 2 (fnM 2 4 b__law_changed) := def_mk N.d__law_changed sc__law_changed bn__law_changed rfl rfl fun f cdv A outer s H E hr nd tk hp => (ss_cons (s_set (i := 2) nd (e_callS (ok__law_draw N) hr (by decide) tk (a_cons (e_var (i := 1)) (a_cons e_int a_nil)) (argN_cons (argN_cons argN_nil)))) (ss_cons (s_if (t_cmp (o_eq hr.units) (e_var (i := 2)) e_int (nomark _)) (ss_one (s_ret (e_callS (ok__law_any N) hr (by decide) tk (a_cons (e_var (i := 1)) (a_cons e_int a_nil)) (argN_cons (argN_cons argN_nil))))) ss_nil) (ss_cons (s_if (t_w (w_or (t_cmp o_is (e_var (i := 0)) e_none (nomark _)) (w_or1 (t_tru (e_isi (T := "bool") (by decide) rfl N.f_isinstance rfl N.f_bool bt_bool (e_var (i := 0))))))) (ss_one (s_ret (e_ix (e_lstF (a_cons e_int (a_cons e_int (a_cons (e_tup a_nil) (a_cons (e_tup (a_cons e_int (a_cons e_int a_nil))) (a_cons (e_tup (a_cons e_int (a_cons e_int a_nil))) (a_cons e_str (a_cons (e_lstF a_nil) (a_cons (e_tup (a_cons e_none (a_cons e_none a_nil))) a_nil))))))))) (e_bin o_sub (e_var (i := 2)) e_int)))) ss_nil) (ss_cons (s_if (t_tru (e_isi (T := "int") (by decide) rfl N.f_isinstance rfl N.f_int bt_int (e_var (i := 0)))) (ss_one (s_ret (e_ix (e_lstF (a_cons (e_bin o_add (e_var (i := 0)) e_int) (a_cons (e_bin o_sub (e_var (i := 0)) e_int) (a_cons (e_un o_neg (e_var (i := 0))) (a_cons (e_cmp o_geP (e_var (i := 0)) e_int (nomark _)) (a_cons e_int (a_cons e_int (a_cons e_none (a_cons (e_tup (a_cons (e_var (i := 0)) a_nil)) a_nil))))))))) (e_bin o_sub (e_var (i := 2)) e_int)))) ss_nil) (ss_cons (s_if (t_tru (e_isi (T := "str") (by decide) rfl N.f_isinstance rfl N.f_str bt_str (e_var (i := 0)))) (ss_one (s_ret (e_ix (e_lstF (a_cons (e_bin o_add (e_var (i := 0)) e_str) (a_cons (e_slice (e_var (i := 0)) (p_some e_int) p_no) (a_cons (e_bin o_add (e_var (i := 0)) e_str) (a_cons (e_bin o_add e_str (e_var (i := 0))) (a_cons e_str (a_cons (e_bin o_add (e_var (i := 0)) e_str) (a_cons (e_lstF (a_cons (e_var (i := 0)) a_nil)) (a_cons e_none a_nil))))))))) (e_bin o_sub (e_var (i := 2)) e_int)))) ss_nil) (ss_cons (s_if (t_tru (e_isi (T := "tuple") (by decide) rfl N.f_isinstance rfl N.f_tuple bt_tuple (e_var (i := 0)))) (ss_cons (s_set (i := 3) nd (e_lstF (a_cons (e_slice (e_var (i := 0)) (p_some e_int) p_no) (a_cons (e_slice (e_var (i := 0)) p_no (p_some (e_un o_neg e_int))) (a_cons (e_bin o_add (e_slice (e_var (i := 0)) (p_some e_int) p_no) (e_slice (e_var (i := 0)) p_no (p_some e_int))) (a_cons (e_bin o_add (e_slice (e_var (i := 0)) p_no (p_some e_int)) (e_var (i := 0))) (a_cons (e_bin o_add (e_var (i := 0)) (e_tup (a_cons e_none a_nil))) (a_cons (e_listF rfl N.f_list bt_list (a_cons (e_var (i := 0)) a_nil)) a_nil)))))))) (ss_one (s_ret (e_ix (e_bin o_add (e_var (i := 3)) (e_lstF (a_cons e_none (a_cons (e_bin o_mulT (e_var (i := 0)) e_int) a_nil)))) (e_bin o_sub (e_var (i := 2)) e_int))))) ss_nil) (ss_one (s_ret (e_var (i := 0))))))))))
noncomputable def M__law_changed : List D → S → R D := pureRun (fnM 2 4 b__law_changed)
theorem ok__law_changed (N : Nm K mg) : DefOk P w K mg base "_law_changed" 44 2 M__law_changed := (raw__law_changed N).alone
theorem changed_w {A d : Nat} {x : PyData} {g w : GH} {Q : D → S → Prop} (hA : A ≤ 1000) (hx : Fl A d x) (hw : WA w) (h : ∀ y w', smallT y = true → WA w' → Q (.p y) ⟨g, w'⟩) : Gets (M__law_changed [.p x, .well 0] ⟨g, w⟩) Q := by
  refine pure_gets rfl ?_
  have hk : ∀ {xs : List PyData} {r : Nat} {w1 : GH}, WA w1 → r < 9 → ¬ ((r : Int) = 0) → xs.length = 8 → (∀ y ∈ xs, smallT y = true) → ∃ y, ixAt xs ((r : Int) - 1) = some y ∧ Q (.p y) ⟨g, w1⟩ := fun {xs r w1} hw1 hr h0 hl hs => by
    obtain ⟨y, hy, e⟩ := ixAt_mem (xs := xs) (i := (r : Int) - 1) (by omega) (by omega)
    exact ⟨y, e, h y w1 (hs y hy) hw1⟩
  have z0 : Mp.sizeOk 0 = true := by decide
  have z1 : Mp.sizeOk 1 = true := by decide
  have z2 : Mp.sizeOk 2 = true := by decide
  have z6 : Mp.sizeOk 6 = true := by decide
  have z8 : Mp.sizeOk 8 = true := by decide
  simp only [b__law_changed, mVar, mK, mBin, mUn, mTru, mTest, mAnd, mOr, mNot, mAndV, mOrV, mNotV, mIf, mNil, mCons, mTup, mLst, mLstF, mCall, mChain, mIsi, fIsi, tyD, tyP, mSlice, oNo, oSome, mSeq, srcOf, mRange1, mRange2, sNext, sSeq, sIf, sRet, sRetN, sExpr, sSet, sAsg, sAug, sFor, sRaise, gSet, gMore, gNone, Mp.gTup, mMeth, fAppend, fLen, fInt, truth, ptruth, asB, pp1, pp2, ret1, dIs, isN, allP, frzD, mFrz, List.map_cons, List.map_nil, List.cons_append, List.nil_append, List.length_cons, List.length_nil, List.getElem?_cons_zero, List.getElem?_cons_succ, List.getElem?_nil, List.set_cons_zero, List.set_cons_succ, if_true, ite_true, Nat.reduceAdd, Nat.reduceSub, List.replicate, Bool.false_eq_true, if_false, Bool.not_true, Bool.not_false, mp_ft, mp_tf, isTy, beq_self_eq_true, isi0, isi1, isi2, isi3, isi4, isi5, isi6, isi7, isi8, isi9, isi10, isi11, isi12, isi13, isi14, isi15, isi16, isi17, isi18, isi19, isi20, isi21, isi22, isi23, isi24, isi25, isi26, isi27, isi28, isi29, isi30, isi31, isi32, isi33, isi34, isi35, isi36, isi37, isi38, isi39, isi40, isi41, onlyF, dIx_tup, dIx_lst, dIx_ref, ixAt_0, ixAt_1, ixAt_2, ixAt_3, iEq_int, iNe_int, dAdd, iAdd, iSub, iNeg, iCmp, iLe, iLt, iGe, iGt, dMul, iMulT, iMul, iMod, iDiv, gIx, setIx, decide_true, decide_false, decide_eq_true_eq, Bool.not_eq_true, List.length_map, gets_ok, gets_bind, gets_ite, rsw_ite, rsw_seq, rsw_thn, rsw_nx, rsw_ret, rst_x, rsx_seq, rsx_nx, rsx_ret, rsx_brk, rsx_cont, rsx_ite, rsx_thn, gets_fnM, onlyP, Option.map_some, Src.items]
  refine draw_w hw (by decide) (by decide) fun r w1 hr hw1 => ?_
  simp only [mVar, mK, mBin, mUn, mTru, mTest, mAnd, mOr, mNot, mAndV, mOrV, mNotV, mIf, mNil, mCons, mTup, mLst, mLstF, mCall, mChain, mIsi, fIsi, tyD, tyP, mSlice, oNo, oSome, mSeq, srcOf, mRange1, mRange2, sNext, sSeq, sIf, sRet, sRetN, sExpr, sSet, sAsg, sAug, sFor, sRaise, gSet, gMore, gNone, Mp.gTup, mMeth, fAppend, fLen, fInt, truth, ptruth, asB, pp1, pp2, ret1, dIs, isN, allP, frzD, mFrz, List.map_cons, List.map_nil, List.cons_append, List.nil_append, List.length_cons, List.length_nil, List.getElem?_cons_zero, List.getElem?_cons_succ, List.getElem?_nil, List.set_cons_zero, List.set_cons_succ, if_true, ite_true, Nat.reduceAdd, Nat.reduceSub, List.replicate, Bool.false_eq_true, if_false, Bool.not_true, Bool.not_false, mp_ft, mp_tf, isTy, beq_self_eq_true, isi0, isi1, isi2, isi3, isi4, isi5, isi6, isi7, isi8, isi9, isi10, isi11, isi12, isi13, isi14, isi15, isi16, isi17, isi18, isi19, isi20, isi21, isi22, isi23, isi24, isi25, isi26, isi27, isi28, isi29, isi30, isi31, isi32, isi33, isi34, isi35, isi36, isi37, isi38, isi39, isi40, isi41, onlyF, dIx_tup, dIx_lst, dIx_ref, ixAt_0, ixAt_1, ixAt_2, ixAt_3, iEq_int, iNe_int, dAdd, iAdd, iSub, iNeg, iCmp, iLe, iLt, iGe, iGt, dMul, iMulT, iMul, iMod, iDiv, gIx, setIx, decide_true, decide_false, decide_eq_true_eq, Bool.not_eq_true, List.length_map, gets_ok, gets_bind, gets_ite, rsw_ite, rsw_seq, rsw_thn, rsw_nx, rsw_ret, rst_x, rsx_seq, rsx_nx, rsx_ret, rsx_brk, rsx_cont, rsx_ite, rsx_thn, gets_fnM, onlyP, Option.map_some, Src.items]
  by_cases h0 : (r : Int) = 0
  · simp only [h0, mVar, mK, mBin, mUn, mTru, mTest, mAnd, mOr, mNot, mAndV, mOrV, mNotV, mIf, mNil, mCons, mTup, mLst, mLstF, mCall, mChain, mIsi, fIsi, tyD, tyP, mSlice, oNo, oSome, mSeq, srcOf, mRange1, mRange2, sNext, sSeq, sIf, sRet, sRetN, sExpr, sSet, sAsg, sAug, sFor, sRaise, gSet, gMore, gNone, Mp.gTup, mMeth, fAppend, fLen, fInt, truth, ptruth, asB, pp1, pp2, ret1, dIs, isN, allP, frzD, mFrz, List.map_cons, List.map_nil, List.cons_append, List.nil_append, List.length_cons, List.length_nil, List.getElem?_cons_zero, List.getElem?_cons_succ, List.getElem?_nil, List.set_cons_zero, List.set_cons_succ, if_true, ite_true, Nat.reduceAdd, Nat.reduceSub, List.replicate, Bool.false_eq_true, if_false, Bool.not_true, Bool.not_false, mp_ft, mp_tf, isTy, beq_self_eq_true, isi0, isi1, isi2, isi3, isi4, isi5, isi6, isi7, isi8, isi9, isi10, isi11, isi12, isi13, isi14, isi15, isi16, isi17, isi18, isi19, isi20, isi21, isi22, isi23, isi24, isi25, isi26, isi27, isi28, isi29, isi30, isi31, isi32, isi33, isi34, isi35, isi36, isi37, isi38, isi39, isi40, isi41, onlyF, dIx_tup, dIx_lst, dIx_ref, ixAt_0, ixAt_1, ixAt_2, ixAt_3, iEq_int, iNe_int, dAdd, iAdd, iSub, iNeg, iCmp, iLe, iLt, iGe, iGt, dMul, iMulT, iMul, iMod, iDiv, gIx, setIx, decide_true, decide_false, decide_eq_true_eq, Bool.not_eq_true, List.length_map, gets_ok, gets_bind, gets_ite, rsw_ite, rsw_seq, rsw_thn, rsw_nx, rsw_ret, rst_x, rsx_seq, rsx_nx, rsx_ret, rsx_brk, rsx_cont, rsx_ite, rsx_thn, gets_fnM, onlyP, Option.map_some, Src.items]
    exact any_w hw1 fun y w' hy hw' => ⟨y, rfl, h y w' hy hw'⟩
  · have cs : (∃ ps, x = .tuple ps ∧ ps.length ≤ A) ∨ x = .none ∨ ∃ i, x = .int i := by
      cases d with
      | zero => exact .inr hx.2
      | succ d =>
        rcases hx with ⟨ps, e, hl, _⟩ | e
        · exact .inl ⟨ps, e, hl⟩
        · exact .inr e
    rcases cs with ⟨ps, rfl, hl⟩ | rfl | ⟨i, rfl⟩
    · have c1 : (cutL ps (some 1) none).length ≤ ps.length := cutL_sub
      have c2 : (cutL ps none (some 1)).length ≤ ps.length := cutL_sub
      have c3 : (cutL ps none (some (-1))).length ≤ ps.length := cutL_sub
      have y1 : Mp.sizeOk ((cutL ps (some 1) none).length + (cutL ps none (some 1)).length) = true := sizeOk_of (by omega)
      have y2 : Mp.sizeOk ((cutL ps none (some 1)).length + ps.length) = true := sizeOk_of (by omega)
      have y3 : Mp.sizeOk (ps.length + 1) = true := sizeOk_of (by omega)
      have y4 : Mp.sizeOk (List.replicate (Int.toNat 2) ps).flatten.length = true := sizeOk_of (by simp; omega)
      have hz : 2 ≤ (2 : Int) ∧ (2 : Int) ≤ 1000 ∧ ps.length ≤ 1000 := ⟨by omega, by omega, by omega⟩
      have s1 : smallT (.tuple (cutL ps (some 1) none)) = true := sizeOk_of (by omega)
      have s3 : smallT (.tuple (cutL ps none (some (-1)))) = true := sizeOk_of (by omega)
      obtain ⟨y, e, q⟩ := hk (xs := [.tuple (cutL ps (some 1) none), .tuple (cutL ps none (some (-1))), .tuple (cutL ps (some 1) none ++ cutL ps none (some 1)), .tuple (cutL ps none (some 1) ++ ps), .tuple (ps ++ [.none]), .list ps] ++ [.none, .tuple (List.replicate (Int.toNat 2) ps).flatten]) hw1 (by omega) h0 rfl (by
        simp only [List.cons_append, List.nil_append, List.mem_cons, List.not_mem_nil, or_false]
        rintro y (rfl | rfl | rfl | rfl | rfl | rfl | rfl | rfl)
        · exact s1
        · exact s3
        · simpa [smallT] using y1
        · simpa [smallT] using y2
        · simpa [smallT] using y3
        · rfl
        · rfl
        · exact y4)
      have e' := congrArg (Option.map D.p) e
      rw [← ixAt_map] at e'
      simp only [List.map_cons, List.map_nil, List.cons_append, List.nil_append, Option.map_some] at e'
      simp only [h0, mVar, mK, mBin, mUn, mTru, mTest, mAnd, mOr, mNot, mAndV, mOrV, mNotV, mIf, mNil, mCons, mTup, mLst, mLstF, mCall, mChain, mIsi, fIsi, tyD, tyP, mSlice, oNo, oSome, mSeq, srcOf, mRange1, mRange2, sNext, sSeq, sIf, sRet, sRetN, sExpr, sSet, sAsg, sAug, sFor, sRaise, gSet, gMore, gNone, Mp.gTup, mMeth, fAppend, fLen, fInt, truth, ptruth, asB, pp1, pp2, ret1, dIs, isN, allP, frzD, mFrz, List.map_cons, List.map_nil, List.cons_append, List.nil_append, List.length_cons, List.length_nil, List.getElem?_cons_zero, List.getElem?_cons_succ, List.getElem?_nil, List.set_cons_zero, List.set_cons_succ, if_true, ite_true, Nat.reduceAdd, Nat.reduceSub, List.replicate, Bool.false_eq_true, if_false, Bool.not_true, Bool.not_false, mp_ft, mp_tf, isTy, beq_self_eq_true, isi0, isi1, isi2, isi3, isi4, isi5, isi6, isi7, isi8, isi9, isi10, isi11, isi12, isi13, isi14, isi15, isi16, isi17, isi18, isi19, isi20, isi21, isi22, isi23, isi24, isi25, isi26, isi27, isi28, isi29, isi30, isi31, isi32, isi33, isi34, isi35, isi36, isi37, isi38, isi39, isi40, isi41, onlyF, dIx_tup, dIx_lst, dIx_ref, ixAt_0, ixAt_1, ixAt_2, ixAt_3, iEq_int, iNe_int, dAdd, iAdd, iSub, iNeg, iCmp, iLe, iLt, iGe, iGt, dMul, iMulT, iMul, iMod, iDiv, gIx, setIx, decide_true, decide_false, decide_eq_true_eq, Bool.not_eq_true, List.length_map, gets_ok, gets_bind, gets_ite, rsw_ite, rsw_seq, rsw_thn, rsw_nx, rsw_ret, rst_x, rsx_seq, rsx_nx, rsx_ret, rsx_brk, rsx_cont, rsx_ite, rsx_thn, gets_fnM, onlyP, Option.map_some, Src.items, fSlice, fListF, y1, y2, y3, z1, z2, z6, z8, hz, and_self, Int.reduceNeg, kNew, e']
      exact ⟨y, rfl, q⟩
    · obtain ⟨y, e, q⟩ := hk (xs := [.int 0, .int 1, .tuple [], .tuple [.int 0, .int 0], .tuple [.int 1, .int 0], .str "-", .list [], .tuple [.none, .none]]) hw1 (by omega) h0 rfl (by simp [smallT, z0, z2])
      simp only [h0, mVar, mK, mBin, mUn, mTru, mTest, mAnd, mOr, mNot, mAndV, mOrV, mNotV, mIf, mNil, mCons, mTup, mLst, mLstF, mCall, mChain, mIsi, fIsi, tyD, tyP, mSlice, oNo, oSome, mSeq, srcOf, mRange1, mRange2, sNext, sSeq, sIf, sRet, sRetN, sExpr, sSet, sAsg, sAug, sFor, sRaise, gSet, gMore, gNone, Mp.gTup, mMeth, fAppend, fLen, fInt, truth, ptruth, asB, pp1, pp2, ret1, dIs, isN, allP, frzD, mFrz, List.map_cons, List.map_nil, List.cons_append, List.nil_append, List.length_cons, List.length_nil, List.getElem?_cons_zero, List.getElem?_cons_succ, List.getElem?_nil, List.set_cons_zero, List.set_cons_succ, if_true, ite_true, Nat.reduceAdd, Nat.reduceSub, List.replicate, Bool.false_eq_true, if_false, Bool.not_true, Bool.not_false, mp_ft, mp_tf, isTy, beq_self_eq_true, isi0, isi1, isi2, isi3, isi4, isi5, isi6, isi7, isi8, isi9, isi10, isi11, isi12, isi13, isi14, isi15, isi16, isi17, isi18, isi19, isi20, isi21, isi22, isi23, isi24, isi25, isi26, isi27, isi28, isi29, isi30, isi31, isi32, isi33, isi34, isi35, isi36, isi37, isi38, isi39, isi40, isi41, onlyF, dIx_tup, dIx_lst, dIx_ref, ixAt_0, ixAt_1, ixAt_2, ixAt_3, iEq_int, iNe_int, dAdd, iAdd, iSub, iNeg, iCmp, iLe, iLt, iGe, iGt, dMul, iMulT, iMul, iMod, iDiv, gIx, setIx, decide_true, decide_false, decide_eq_true_eq, Bool.not_eq_true, List.length_map, gets_ok, gets_bind, gets_ite, rsw_ite, rsw_seq, rsw_thn, rsw_nx, rsw_ret, rst_x, rsx_seq, rsx_nx, rsx_ret, rsx_brk, rsx_cont, rsx_ite, rsx_thn, gets_fnM, onlyP, Option.map_some, Src.items, z0, z2, z8, e]
      exact ⟨y, rfl, q⟩
    · obtain ⟨y, e, q⟩ := hk (xs := [.int (i + 1), .int (i - 1), .int (-i), .bool (decide (1 ≤ i)), .int 0, .int 61, .none, .tuple [.int i]]) hw1 (by omega) h0 rfl (by simp [smallT, z1])
      simp only [h0, mVar, mK, mBin, mUn, mTru, mTest, mAnd, mOr, mNot, mAndV, mOrV, mNotV, mIf, mNil, mCons, mTup, mLst, mLstF, mCall, mChain, mIsi, fIsi, tyD, tyP, mSlice, oNo, oSome, mSeq, srcOf, mRange1, mRange2, sNext, sSeq, sIf, sRet, sRetN, sExpr, sSet, sAsg, sAug, sFor, sRaise, gSet, gMore, gNone, Mp.gTup, mMeth, fAppend, fLen, fInt, truth, ptruth, asB, pp1, pp2, ret1, dIs, isN, allP, frzD, mFrz, List.map_cons, List.map_nil, List.cons_append, List.nil_append, List.length_cons, List.length_nil, List.getElem?_cons_zero, List.getElem?_cons_succ, List.getElem?_nil, List.set_cons_zero, List.set_cons_succ, if_true, ite_true, Nat.reduceAdd, Nat.reduceSub, List.replicate, Bool.false_eq_true, if_false, Bool.not_true, Bool.not_false, mp_ft, mp_tf, isTy, beq_self_eq_true, isi0, isi1, isi2, isi3, isi4, isi5, isi6, isi7, isi8, isi9, isi10, isi11, isi12, isi13, isi14, isi15, isi16, isi17, isi18, isi19, isi20, isi21, isi22, isi23, isi24, isi25, isi26, isi27, isi28, isi29, isi30, isi31, isi32, isi33, isi34, isi35, isi36, isi37, isi38, isi39, isi40, isi41, onlyF, dIx_tup, dIx_lst, dIx_ref, ixAt_0, ixAt_1, ixAt_2, ixAt_3, iEq_int, iNe_int, dAdd, iAdd, iSub, iNeg, iCmp, iLe, iLt, iGe, iGt, dMul, iMulT, iMul, iMod, iDiv, gIx, setIx, decide_true, decide_false, decide_eq_true_eq, Bool.not_eq_true, List.length_map, gets_ok, gets_bind, gets_ite, rsw_ite, rsw_seq, rsw_thn, rsw_nx, rsw_ret, rst_x, rsx_seq, rsx_nx, rsx_ret, rsx_brk, rsx_cont, rsx_ite, rsx_thn, gets_fnM, onlyP, Option.map_some, Src.items, z1, z8, e]
      exact ⟨y, rfl, q⟩

/-! _law_spoilt -/
theorem sc__law_spoilt : FnScope ["_law_thing", "_law_at", "_law_well_here", "_law_k", "_law_size"] ["_law_thing", "_law_at", "_law_well_here"] (defScope t__law_spoilt) := ⟨rfl, rfl, rfl, by decide +kernel, rfl, by decide +kernel, by decide +kernel⟩
theorem bn__law_spoilt : BindN "_law_spoilt" t__law_spoilt ["_law_thing", "_law_at", "_law_well_here"] := fun _ _ _ _ _ _ us hl => match us, hl with | [_, _, _], _ => rfl
noncomputable def b__law_spoilt (R : List D → S → R D) : MS := (sSeq (sIf (mTest (mBin (pp2 iEq) (mVar 1) (mK (.int 0)))) (sRet (mCall M__law_changed (mCons (mVar 0) (mCons (mVar 2) mNil)))) sNext) (sSeq (sSet 1 (mBin (pp2 iSub) (mVar 1) (mK (.int 1)))) (sSeq (sFor (mRange1 (mCall fLen (mCons (mVar 0) mNil))) (gSet 3) (sSeq (sSet 4 (mCall M__law_nodes (mCons (mBin dIx (mVar 0) (mVar 3)) mNil))) (sSeq (sIf (mTest (mBin (pp2 iLt) (mVar 1) (mVar 4))) (sRet (mBin dAdd (mBin dAdd (mSlice (mVar 0) oNo (oSome (mVar 3))) (mTup (mCons (mCall (R) (mCons (mBin dIx (mVar 0) (mVar 3)) (mCons (mVar 1) (mCons (mVar 2) mNil)))) mNil))) (mSlice (mVar 0) (oSome (mBin dAdd (mVar 3) (mK (.int 1)))) oNo))) sNext) (sSet 1 (mBin (pp2 iSub) (mVar 1) (mVar 4)))))) (sRet (mVar 0)))))
theorem raw__law_spoilt (N : Nm K mg) : ∀ k, DefOk P w K mg base "_law_spoilt" (44 + k) 3 (recM (fun R => fnM 3 5 (b__law_spoilt R)) k) := def_rec N.d__law_spoilt bn__law_spoilt rfl fun k R hR => def_mk N.d__law_spoilt sc__law_spoilt bn__law_spoilt rfl rfl fun f cdv A outer s H E hr nd tk hp => (ss_cons (s_if (t_cmp (o_eq hr.units) (e_var (i := 1)) e_int (nomark _)) (ss_one (s_ret (e_callS (ok__law_changed N) hr (by omega) tk (a_cons (e_var (i := 0)) (a_cons (e_var (i := 2)) a_nil)) (argN_cons (argN_cons argN_nil))))) ss_nil) (ss_cons (s_set (i := 1) nd (e_bin o_sub (e_var (i := 1)) e_int)) (ss_cons (s_for hp rfl (i_range1 rfl N.f_range (e_bi b_len rfl N.f_len bt_len (a_cons (e_var (i := 0)) a_nil))) (g_name (i := 3) nd) (ss_cons (s_set (i := 4) nd (e_callS (ok__law_nodes N) hr (by omega) tk (a_cons (e_ix (e_var (i := 0)) (e_var (i := 3))) a_nil) (argN_cons argN_nil))) (ss_cons (s_if (t_cmp o_ltP (e_var (i := 1)) (e_var (i := 4)) (nomark _)) (ss_one (s_ret (e_bin o_add (e_bin o_add (e_slice (e_var (i := 0)) p_no (p_some (e_var (i := 3)))) (e_tup (a_cons (e_callS hR hr (Nat.le_refl _) tk (a_cons (e_ix (e_var (i := 0)) (e_var (i := 3))) (a_cons (e_var (i := 1)) (a_cons (e_var (i := 2)) a_nil))) (argN_cons (argN_cons (argN_cons argN_nil)))) a_nil))) (e_slice (e_var (i := 0)) (p_some (e_bin o_add (e_var (i := 3)) e_int)) p_no)))) ss_nil) (ss_one (s_set (i := 1) nd (e_bin o_sub (e_var (i := 1)) (e_var (i := 4)))))))) (ss_one (s_ret (e_var (i := 0)))))))
noncomputable def M__law_spoilt : List D → S → R D := pureRun (recM (fun R => fnM 3 5 (b__law_spoilt R)) 40)
theorem ok__law_spoilt (N : Nm K mg) : DefOk P w K mg base "_law_spoilt" 84 3 M__law_spoilt := (raw__law_spoilt N 40).alone
noncomputable abbrev rSp : Nat → List D → S → R D := recM (fun R => fnM 3 5 (b__law_spoilt R))
theorem spoilt_rec {A : Nat} (hA : A ≤ 1000) : ∀ {d : Nat} {x : PyData} {k at' : Nat} {g w : GH}, d ≤ 39 → Fl A d x → at' < nds d x → WA w → Gets (rSp (k + d + 1) [.p x, .p (.int at'), .well 0] ⟨g, w⟩) fun d s => s.g = g ∧ WA s.w ∧ ∃ y, d = .p y ∧ smallT y = true := by
  intro d
  induction d with
  | zero =>
    intro x k at' g w hd hx hat hw
    show Gets (fnM 3 5 (b__law_spoilt _) [.p x, .p (.int at'), .well 0] ⟨g, w⟩) _
    have h0 : (at' : Int) = 0 := by simp [nds] at hat; omega
    simp only [b__law_spoilt, mVar, mK, mBin, mUn, mTru, mTest, mAnd, mOr, mNot, mAndV, mOrV, mNotV, mIf, mNil, mCons, mTup, mLst, mLstF, mCall, mChain, mIsi, fIsi, tyD, tyP, mSlice, oNo, oSome, mSeq, srcOf, mRange1, mRange2, sNext, sSeq, sIf, sRet, sRetN, sExpr, sSet, sAsg, sAug, sFor, sRaise, gSet, gMore, gNone, Mp.gTup, mMeth, fAppend, fLen, fInt, truth, ptruth, asB, pp1, pp2, ret1, dIs, isN, allP, frzD, mFrz, List.map_cons, List.map_nil, List.cons_append, List.nil_append, List.length_cons, List.length_nil, List.getElem?_cons_zero, List.getElem?_cons_succ, List.getElem?_nil, List.set_cons_zero, List.set_cons_succ, if_true, ite_true, Nat.reduceAdd, Nat.reduceSub, List.replicate, Bool.false_eq_true, if_false, Bool.not_true, Bool.not_false, mp_ft, mp_tf, isTy, beq_self_eq_true, isi0, isi1, isi2, isi3, isi4, isi5, isi6, isi7, isi8, isi9, isi10, isi11, isi12, isi13, isi14, isi15, isi16, isi17, isi18, isi19, isi20, isi21, isi22, isi23, isi24, isi25, isi26, isi27, isi28, isi29, isi30, isi31, isi32, isi33, isi34, isi35, isi36, isi37, isi38, isi39, isi40, isi41, onlyF, dIx_tup, dIx_lst, dIx_ref, ixAt_0, ixAt_1, ixAt_2, ixAt_3, iEq_int, iNe_int, dAdd, iAdd, iSub, iNeg, iCmp, iLe, iLt, iGe, iGt, dMul, iMulT, iMul, iMod, iDiv, gIx, setIx, decide_true, decide_false, decide_eq_true_eq, Bool.not_eq_true, List.length_map, gets_ok, gets_bind, gets_ite, rsw_ite, rsw_seq, rsw_thn, rsw_nx, rsw_ret, rst_x, rsx_seq, rsx_nx, rsx_ret, rsx_brk, rsx_cont, rsx_ite, rsx_thn, gets_fnM, onlyP, Option.map_some, Src.items, h0]
    exact changed_w hA hx hw fun y w' hy hw' => ⟨(by simp), hw', y, rfl, hy⟩
  | succ d ih =>
    intro x k at' g w hd hx hat hw
    show Gets (fnM 3 5 (b__law_spoilt (rSp (k + (d + 1)))) [.p x, .p (.int at'), .well 0] ⟨g, w⟩) _
    by_cases h0 : (at' : Int) = 0
    · simp only [b__law_spoilt, mVar, mK, mBin, mUn, mTru, mTest, mAnd, mOr, mNot, mAndV, mOrV, mNotV, mIf, mNil, mCons, mTup, mLst, mLstF, mCall, mChain, mIsi, fIsi, tyD, tyP, mSlice, oNo, oSome, mSeq, srcOf, mRange1, mRange2, sNext, sSeq, sIf, sRet, sRetN, sExpr, sSet, sAsg, sAug, sFor, sRaise, gSet, gMore, gNone, Mp.gTup, mMeth, fAppend, fLen, fInt, truth, ptruth, asB, pp1, pp2, ret1, dIs, isN, allP, frzD, mFrz, List.map_cons, List.map_nil, List.cons_append, List.nil_append, List.length_cons, List.length_nil, List.getElem?_cons_zero, List.getElem?_cons_succ, List.getElem?_nil, List.set_cons_zero, List.set_cons_succ, if_true, ite_true, Nat.reduceAdd, Nat.reduceSub, List.replicate, Bool.false_eq_true, if_false, Bool.not_true, Bool.not_false, mp_ft, mp_tf, isTy, beq_self_eq_true, isi0, isi1, isi2, isi3, isi4, isi5, isi6, isi7, isi8, isi9, isi10, isi11, isi12, isi13, isi14, isi15, isi16, isi17, isi18, isi19, isi20, isi21, isi22, isi23, isi24, isi25, isi26, isi27, isi28, isi29, isi30, isi31, isi32, isi33, isi34, isi35, isi36, isi37, isi38, isi39, isi40, isi41, onlyF, dIx_tup, dIx_lst, dIx_ref, ixAt_0, ixAt_1, ixAt_2, ixAt_3, iEq_int, iNe_int, dAdd, iAdd, iSub, iNeg, iCmp, iLe, iLt, iGe, iGt, dMul, iMulT, iMul, iMod, iDiv, gIx, setIx, decide_true, decide_false, decide_eq_true_eq, Bool.not_eq_true, List.length_map, gets_ok, gets_bind, gets_ite, rsw_ite, rsw_seq, rsw_thn, rsw_nx, rsw_ret, rst_x, rsx_seq, rsx_nx, rsx_ret, rsx_brk, rsx_cont, rsx_ite, rsx_thn, gets_fnM, onlyP, Option.map_some, Src.items, h0]
      exact changed_w hA hx hw fun y w' hy hw' => ⟨(by simp), hw', y, rfl, hy⟩
    · have ih' : ∀ (x : PyData) (at' : Nat) (g w : GH), Fl A d x → at' < nds d x → WA w → Gets (rSp (k + (d + 1)) [.p x, .p (.int at'), .well 0] ⟨g, w⟩) fun d s => s.g = g ∧ WA s.w ∧ ∃ y, d = .p y ∧ smallT y = true := fun x at' g w h1 h2 h3 => ih (by omega) h1 h2 h3
      generalize rSp (k + (d + 1)) = Rc at ih' ⊢
      rcases hx with ⟨ps, rfl, hl, hp⟩ | rfl | ⟨i, rfl⟩
      · have ro : rngOk 0 (ps.length : Int) := rngOk_of (by omega) (by omega) (by omega) (by omega)
        have z1 : Mp.sizeOk 1 = true := by decide
        simp only [b__law_spoilt, mVar, mK, mBin, mUn, mTru, mTest, mAnd, mOr, mNot, mAndV, mOrV, mNotV, mIf, mNil, mCons, mTup, mLst, mLstF, mCall, mChain, mIsi, fIsi, tyD, tyP, mSlice, oNo, oSome, mSeq, srcOf, mRange1, mRange2, sNext, sSeq, sIf, sRet, sRetN, sExpr, sSet, sAsg, sAug, sFor, sRaise, gSet, gMore, gNone, Mp.gTup, mMeth, fAppend, fLen, fInt, truth, ptruth, asB, pp1, pp2, ret1, dIs, isN, allP, frzD, mFrz, List.map_cons, List.map_nil, List.cons_append, List.nil_append, List.length_cons, List.length_nil, List.getElem?_cons_zero, List.getElem?_cons_succ, List.getElem?_nil, List.set_cons_zero, List.set_cons_succ, if_true, ite_true, Nat.reduceAdd, Nat.reduceSub, List.replicate, Bool.false_eq_true, if_false, Bool.not_true, Bool.not_false, mp_ft, mp_tf, isTy, beq_self_eq_true, isi0, isi1, isi2, isi3, isi4, isi5, isi6, isi7, isi8, isi9, isi10, isi11, isi12, isi13, isi14, isi15, isi16, isi17, isi18, isi19, isi20, isi21, isi22, isi23, isi24, isi25, isi26, isi27, isi28, isi29, isi30, isi31, isi32, isi33, isi34, isi35, isi36, isi37, isi38, isi39, isi40, isi41, onlyF, dIx_tup, dIx_lst, dIx_ref, ixAt_0, ixAt_1, ixAt_2, ixAt_3, iEq_int, iNe_int, dAdd, iAdd, iSub, iNeg, iCmp, iLe, iLt, iGe, iGt, dMul, iMulT, iMul, iMod, iDiv, gIx, setIx, decide_true, decide_false, decide_eq_true_eq, Bool.not_eq_true, List.length_map, gets_ok, gets_bind, gets_ite, rsw_ite, rsw_seq, rsw_thn, rsw_nx, rsw_ret, rst_x, rsx_seq, rsx_nx, rsx_ret, rsx_brk, rsx_cont, rsx_ite, rsx_thn, gets_fnM, onlyP, Option.map_some, Src.items, h0, ro, Int.toNat_natCast, rng0]
        refine for_gets (J := fun xs e s' => ∃ (j a : Nat) (e3 e4 : Option D), j ≤ ps.length ∧ xs = ((List.range ps.length).drop j).map (fun k => D.p (eN k)) ∧ s'.g = g ∧ WA s'.w ∧ e = [some (.p (.tuple ps)), some (.p (.int a)), some (.well 0), e3, e4]) (fun _ _ _ _ => trivial) ?_ ?_ _ _ _ ?_
        · rintro x xs e ⟨g', w'⟩ ⟨j, a, e3, e4, hj, hx, rfl, hw', rfl⟩
          have hj' : j < ps.length := by
            rcases Nat.lt_or_ge j ps.length with h | h
            · exact h
            · rw [List.drop_eq_nil_of_le (by simpa using h)] at hx
              cases hx
          rw [List.drop_eq_getElem_cons (by simpa using hj')] at hx
          simp only [List.map_cons, List.getElem_range, List.cons.injEq] at hx
          obtain ⟨rfl, rfl⟩ := hx
          have hpj := hp _ (List.getElem_mem hj')
          have en : ∀ s, M__law_nodes [.p ps[j]] s = .ok (.p (.int (nds d ps[j]))) s := fun s => nodes_eq (A := A) (by omega) (by omega) hpj
          simp only [mVar, mK, mBin, mUn, mTru, mTest, mAnd, mOr, mNot, mAndV, mOrV, mNotV, mIf, mNil, mCons, mTup, mLst, mLstF, mCall, mChain, mIsi, fIsi, tyD, tyP, mSlice, oNo, oSome, mSeq, srcOf, mRange1, mRange2, sNext, sSeq, sIf, sRet, sRetN, sExpr, sSet, sAsg, sAug, sFor, sRaise, gSet, gMore, gNone, Mp.gTup, mMeth, fAppend, fLen, fInt, truth, ptruth, asB, pp1, pp2, ret1, dIs, isN, allP, frzD, mFrz, List.map_cons, List.map_nil, List.cons_append, List.nil_append, List.length_cons, List.length_nil, List.getElem?_cons_zero, List.getElem?_cons_succ, List.getElem?_nil, List.set_cons_zero, List.set_cons_succ, if_true, ite_true, Nat.reduceAdd, Nat.reduceSub, List.replicate, Bool.false_eq_true, if_false, Bool.not_true, Bool.not_false, mp_ft, mp_tf, isTy, beq_self_eq_true, isi0, isi1, isi2, isi3, isi4, isi5, isi6, isi7, isi8, isi9, isi10, isi11, isi12, isi13, isi14, isi15, isi16, isi17, isi18, isi19, isi20, isi21, isi22, isi23, isi24, isi25, isi26, isi27, isi28, isi29, isi30, isi31, isi32, isi33, isi34, isi35, isi36, isi37, isi38, isi39, isi40, isi41, onlyF, dIx_tup, dIx_lst, dIx_ref, ixAt_0, ixAt_1, ixAt_2, ixAt_3, iEq_int, iNe_int, dAdd, iAdd, iSub, iNeg, iCmp, iLe, iLt, iGe, iGt, dMul, iMulT, iMul, iMod, iDiv, gIx, setIx, decide_true, decide_false, decide_eq_true_eq, Bool.not_eq_true, List.length_map, gets_ok, gets_bind, gets_ite, rsw_ite, rsw_seq, rsw_thn, rsw_nx, rsw_ret, rst_x, rsx_seq, rsx_nx, rsx_ret, rsx_brk, rsx_cont, rsx_ite, rsx_thn, gets_fnM, onlyP, Option.map_some, Src.items, eN, ixAt_nat hj', en]
          by_cases hlt : (a : Int) < (nds d ps[j] : Nat)
          · have c1 : (cutL ps none (some (j : Int))).length ≤ ps.length := cutL_sub
            have c2 : (cutL ps (some ((j : Int) + 1)) none).length ≤ ps.length := cutL_sub
            have y1 : Mp.sizeOk ((cutL ps none (some (j : Int))).length + 1) = true := sizeOk_of (by omega)
            have y2 : Mp.sizeOk ((cutL ps none (some (j : Int))).length + 1 + (cutL ps (some ((j : Int) + 1)) none).length) = true := sizeOk_of (by omega)
            simp only [hlt, mVar, mK, mBin, mUn, mTru, mTest, mAnd, mOr, mNot, mAndV, mOrV, mNotV, mIf, mNil, mCons, mTup, mLst, mLstF, mCall, mChain, mIsi, fIsi, tyD, tyP, mSlice, oNo, oSome, mSeq, srcOf, mRange1, mRange2, sNext, sSeq, sIf, sRet, sRetN, sExpr, sSet, sAsg, sAug, sFor, sRaise, gSet, gMore, gNone, Mp.gTup, mMeth, fAppend, fLen, fInt, truth, ptruth, asB, pp1, pp2, ret1, dIs, isN, allP, frzD, mFrz, List.map_cons, List.map_nil, List.cons_append, List.nil_append, List.length_cons, List.length_nil, List.getElem?_cons_zero, List.getElem?_cons_succ, List.getElem?_nil, List.set_cons_zero, List.set_cons_succ, if_true, ite_true, Nat.reduceAdd, Nat.reduceSub, List.replicate, Bool.false_eq_true, if_false, Bool.not_true, Bool.not_false, mp_ft, mp_tf, isTy, beq_self_eq_true, isi0, isi1, isi2, isi3, isi4, isi5, isi6, isi7, isi8, isi9, isi10, isi11, isi12, isi13, isi14, isi15, isi16, isi17, isi18, isi19, isi20, isi21, isi22, isi23, isi24, isi25, isi26, isi27, isi28, isi29, isi30, isi31, isi32, isi33, isi34, isi35, isi36, isi37, isi38, isi39, isi40, isi41, onlyF, dIx_tup, dIx_lst, dIx_ref, ixAt_0, ixAt_1, ixAt_2, ixAt_3, iEq_int, iNe_int, dAdd, iAdd, iSub, iNeg, iCmp, iLe, iLt, iGe, iGt, dMul, iMulT, iMul, iMod, iDiv, gIx, setIx, decide_true, decide_false, decide_eq_true_eq, Bool.not_eq_true, List.length_map, gets_ok, gets_bind, gets_ite, rsw_ite, rsw_seq, rsw_thn, rsw_nx, rsw_ret, rst_x, rsx_seq, rsx_nx, rsx_ret, rsx_brk, rsx_cont, rsx_ite, rsx_thn, gets_fnM, onlyP, Option.map_some, Src.items, fSlice, ixAt_nat hj']
            refine (ih' ps[j] a _ w' hpj (by omega) hw').mono ?_
            rintro d' ⟨g'', w''⟩ ⟨rfl, hw2, y, rfl, hy⟩
            simp only [mVar, mK, mBin, mUn, mTru, mTest, mAnd, mOr, mNot, mAndV, mOrV, mNotV, mIf, mNil, mCons, mTup, mLst, mLstF, mCall, mChain, mIsi, fIsi, tyD, tyP, mSlice, oNo, oSome, mSeq, srcOf, mRange1, mRange2, sNext, sSeq, sIf, sRet, sRetN, sExpr, sSet, sAsg, sAug, sFor, sRaise, gSet, gMore, gNone, Mp.gTup, mMeth, fAppend, fLen, fInt, truth, ptruth, asB, pp1, pp2, ret1, dIs, isN, allP, frzD, mFrz, List.map_cons, List.map_nil, List.cons_append, List.nil_append, List.length_cons, List.length_nil, List.getElem?_cons_zero, List.getElem?_cons_succ, List.getElem?_nil, List.set_cons_zero, List.set_cons_succ, if_true, ite_true, Nat.reduceAdd, Nat.reduceSub, List.replicate, Bool.false_eq_true, if_false, Bool.not_true, Bool.not_false, mp_ft, mp_tf, isTy, beq_self_eq_true, isi0, isi1, isi2, isi3, isi4, isi5, isi6, isi7, isi8, isi9, isi10, isi11, isi12, isi13, isi14, isi15, isi16, isi17, isi18, isi19, isi20, isi21, isi22, isi23, isi24, isi25, isi26, isi27, isi28, isi29, isi30, isi31, isi32, isi33, isi34, isi35, isi36, isi37, isi38, isi39, isi40, isi41, onlyF, dIx_tup, dIx_lst, dIx_ref, ixAt_0, ixAt_1, ixAt_2, ixAt_3, iEq_int, iNe_int, dAdd, iAdd, iSub, iNeg, iCmp, iLe, iLt, iGe, iGt, dMul, iMulT, iMul, iMod, iDiv, gIx, setIx, decide_true, decide_false, decide_eq_true_eq, Bool.not_eq_true, List.length_map, gets_ok, gets_bind, gets_ite, rsw_ite, rsw_seq, rsw_thn, rsw_nx, rsw_ret, rst_x, rsx_seq, rsx_nx, rsx_ret, rsx_brk, rsx_cont, rsx_ite, rsx_thn, gets_fnM, onlyP, Option.map_some, Src.items, z1, y1, List.length_append, y2]
            exact ⟨(by simp), hw2, _, rfl, by
              show Mp.sizeOk _ = true
              simp only [List.length_append, List.length_cons, List.length_nil, Nat.zero_add]
              exact y2⟩
          · simp only [hlt, mVar, mK, mBin, mUn, mTru, mTest, mAnd, mOr, mNot, mAndV, mOrV, mNotV, mIf, mNil, mCons, mTup, mLst, mLstF, mCall, mChain, mIsi, fIsi, tyD, tyP, mSlice, oNo, oSome, mSeq, srcOf, mRange1, mRange2, sNext, sSeq, sIf, sRet, sRetN, sExpr, sSet, sAsg, sAug, sFor, sRaise, gSet, gMore, gNone, Mp.gTup, mMeth, fAppend, fLen, fInt, truth, ptruth, asB, pp1, pp2, ret1, dIs, isN, allP, frzD, mFrz, List.map_cons, List.map_nil, List.cons_append, List.nil_append, List.length_cons, List.length_nil, List.getElem?_cons_zero, List.getElem?_cons_succ, List.getElem?_nil, List.set_cons_zero, List.set_cons_succ, if_true, ite_true, Nat.reduceAdd, Nat.reduceSub, List.replicate, Bool.false_eq_true, if_false, Bool.not_true, Bool.not_false, mp_ft, mp_tf, isTy, beq_self_eq_true, isi0, isi1, isi2, isi3, isi4, isi5, isi6, isi7, isi8, isi9, isi10, isi11, isi12, isi13, isi14, isi15, isi16, isi17, isi18, isi19, isi20, isi21, isi22, isi23, isi24, isi25, isi26, isi27, isi28, isi29, isi30, isi31, isi32, isi33, isi34, isi35, isi36, isi37, isi38, isi39, isi40, isi41, onlyF, dIx_tup, dIx_lst, dIx_ref, ixAt_0, ixAt_1, ixAt_2, ixAt_3, iEq_int, iNe_int, dAdd, iAdd, iSub, iNeg, iCmp, iLe, iLt, iGe, iGt, dMul, iMulT, iMul, iMod, iDiv, gIx, setIx, decide_true, decide_false, decide_eq_true_eq, Bool.not_eq_true, List.length_map, gets_ok, gets_bind, gets_ite, rsw_ite, rsw_seq, rsw_thn, rsw_nx, rsw_ret, rst_x, rsx_seq, rsx_nx, rsx_ret, rsx_brk, rsx_cont, rsx_ite, rsx_thn, gets_fnM, onlyP, Option.map_some, Src.items]
            exact ⟨j + 1, a - nds d ps[j], _, _, by omega, rfl, (by simp), hw', by
              have : (a : Int) - (nds d ps[j] : Nat) = ((a - nds d ps[j] : Nat) : Int) := by omega
              rw [this]⟩
        · rintro e ⟨g', w'⟩ ⟨j, a, e3, e4, hj, hx, rfl, hw', rfl⟩
          simp only [mVar, mK, mBin, mUn, mTru, mTest, mAnd, mOr, mNot, mAndV, mOrV, mNotV, mIf, mNil, mCons, mTup, mLst, mLstF, mCall, mChain, mIsi, fIsi, tyD, tyP, mSlice, oNo, oSome, mSeq, srcOf, mRange1, mRange2, sNext, sSeq, sIf, sRet, sRetN, sExpr, sSet, sAsg, sAug, sFor, sRaise, gSet, gMore, gNone, Mp.gTup, mMeth, fAppend, fLen, fInt, truth, ptruth, asB, pp1, pp2, ret1, dIs, isN, allP, frzD, mFrz, List.map_cons, List.map_nil, List.cons_append, List.nil_append, List.length_cons, List.length_nil, List.getElem?_cons_zero, List.getElem?_cons_succ, List.getElem?_nil, List.set_cons_zero, List.set_cons_succ, if_true, ite_true, Nat.reduceAdd, Nat.reduceSub, List.replicate, Bool.false_eq_true, if_false, Bool.not_true, Bool.not_false, mp_ft, mp_tf, isTy, beq_self_eq_true, isi0, isi1, isi2, isi3, isi4, isi5, isi6, isi7, isi8, isi9, isi10, isi11, isi12, isi13, isi14, isi15, isi16, isi17, isi18, isi19, isi20, isi21, isi22, isi23, isi24, isi25, isi26, isi27, isi28, isi29, isi30, isi31, isi32, isi33, isi34, isi35, isi36, isi37, isi38, isi39, isi40, isi41, onlyF, dIx_tup, dIx_lst, dIx_ref, ixAt_0, ixAt_1, ixAt_2, ixAt_3, iEq_int, iNe_int, dAdd, iAdd, iSub, iNeg, iCmp, iLe, iLt, iGe, iGt, dMul, iMulT, iMul, iMod, iDiv, gIx, setIx, decide_true, decide_false, decide_eq_true_eq, Bool.not_eq_true, List.length_map, gets_ok, gets_bind, gets_ite, rsw_ite, rsw_seq, rsw_thn, rsw_nx, rsw_ret, rst_x, rsx_seq, rsx_nx, rsx_ret, rsx_brk, rsx_cont, rsx_ite, rsx_thn, gets_fnM, onlyP, Option.map_some, Src.items]
          exact ⟨(by simp), hw', _, rfl, sizeOk_of (by omega)⟩
        · exact ⟨0, at' - 1, none, none, by omega, by simp, rfl, hw, by
            have : (at' : Int) - 1 = ((at' - 1 : Nat) : Int) := by omega
            rw [this]⟩
      · simp [nds] at hat; omega
      · simp [nds] at hat; omega
theorem spoilt_w {A d : Nat} {x : PyData} {a : Nat} {g w : GH} {Q : D → S → Prop} (hA : A ≤ 1000) (hd : d ≤ 39) (hx : Fl A d x) (ha : a < nds d x) (hw : WA w) (h : ∀ y w', smallT y = true → WA w' → Q (.p y) ⟨g, w'⟩) : Gets (M__law_spoilt [.p x, .p (.int a), .well 0] ⟨g, w⟩) Q := by
  have := spoilt_rec hA (k := 39 - d) (g := []) hd hx ha hw
  rw [show 39 - d + d + 1 = 40 by omega] at this
  exact pure_gets rfl (this.mono fun d s ⟨_, h2, y, h3, h4⟩ => ⟨y, h3, h y s.w h4 h2⟩)

/-! _law_more -/
theorem sc__law_more : FnScope ["_law_well_here"] ["_law_well_here"] (defScope t__law_more) := ⟨rfl, rfl, rfl, by decide +kernel, rfl, by decide +kernel, by decide +kernel⟩
theorem bn__law_more : BindN "_law_more" t__law_more ["_law_well_here"] := fun _ _ _ _ _ _ us hl => match us, hl with | [_], _ => rfl
noncomputable def b__law_more : MS := (sRet (mBin dIx (mLstF (mCons (mCall M__law_draw (mCons (mVar 0) (mCons (mK (.int 2)) mNil))) (mCons (mCall M__law_draw (mCons (mVar 0) (mCons (mK (.int 4)) mNil))) (mCons (mCall M__law_draw (mCons (mVar 0) (mCons (mK (.int 61)) mNil))) mNil)))) (mBin dIx (mLstF (mCons (mK (.int 0)) (mCons (mK (.int 0)) (mCons (mK (.int 1)) (mCons (mK (.int 1)) (mCons (mK (.int 2)) mNil)))))) (mCall M__law_draw (mCons (mVar 0) (mCons (mK (.int 5)) mNil))))))
theorem raw__law_more (N : Nm K mg) : DefOk P w K mg base "_law_more" 4 1 (fnM 1 1 b__law_more) := def_mk N.d__law_more sc__law_more bn__law_more rfl rfl fun f cdv A outer s H E hr nd tk hp => (ss_one (s_ret (e_ix (e_lstF (a_cons (e_callS (ok__law_draw N) hr (by decide) tk (a_cons (e_var (i := 0)) (a_cons e_int a_nil)) (argN_cons (argN_cons argN_nil))) (a_cons (e_callS (ok__law_draw N) hr (by decide) tk (a_cons (e_var (i := 0)) (a_cons e_int a_nil)) (argN_cons (argN_cons argN_nil))) (a_cons (e_callS (ok__law_draw N) hr (by decide) tk (a_cons (e_var (i := 0)) (a_cons e_int a_nil)) (argN_cons (argN_cons argN_nil))) a_nil)))) (e_ix (e_lstF (a_cons e_int (a_cons e_int (a_cons e_int (a_cons e_int (a_cons e_int a_nil)))))) (e_callS (ok__law_draw N) hr (by decide) tk (a_cons (e_var (i := 0)) (a_cons e_int a_nil)) (argN_cons (argN_cons argN_nil)))))))
noncomputable def M__law_more : List D → S → R D := pureRun (fnM 1 1 b__law_more)
theorem ok__law_more (N : Nm K mg) : DefOk P w K mg base "_law_more" 4 1 M__law_more := (raw__law_more N).alone
theorem more_w {g w : GH} {Q : D → S → Prop} (hw : WA w) (h : ∀ (r : Nat) (w' : GH), r ≤ 60 → WA w' → Q (.p (.int r)) ⟨g, w'⟩) : Gets (M__law_more [.well 0] ⟨g, w⟩) Q := by
  refine pure_gets rfl ?_
  simp only [b__law_more, mVar, mK, mBin, mUn, mTru, mTest, mAnd, mOr, mNot, mAndV, mOrV, mNotV, mIf, mNil, mCons, mTup, mLst, mLstF, mCall, mChain, mIsi, fIsi, tyD, tyP, mSlice, oNo, oSome, mSeq, srcOf, mRange1, mRange2, sNext, sSeq, sIf, sRet, sRetN, sExpr, sSet, sAsg, sAug, sFor, sRaise, gSet, gMore, gNone, Mp.gTup, mMeth, fAppend, fLen, fInt, truth, ptruth, asB, pp1, pp2, ret1, dIs, isN, allP, frzD, mFrz, List.map_cons, List.map_nil, List.cons_append, List.nil_append, List.length_cons, List.length_nil, List.getElem?_cons_zero, List.getElem?_cons_succ, List.getElem?_nil, List.set_cons_zero, List.set_cons_succ, if_true, ite_true, Nat.reduceAdd, Nat.reduceSub, List.replicate, Bool.false_eq_true, if_false, Bool.not_true, Bool.not_false, mp_ft, mp_tf, isTy, beq_self_eq_true, isi0, isi1, isi2, isi3, isi4, isi5, isi6, isi7, isi8, isi9, isi10, isi11, isi12, isi13, isi14, isi15, isi16, isi17, isi18, isi19, isi20, isi21, isi22, isi23, isi24, isi25, isi26, isi27, isi28, isi29, isi30, isi31, isi32, isi33, isi34, isi35, isi36, isi37, isi38, isi39, isi40, isi41, onlyF, dIx_tup, dIx_lst, dIx_ref, ixAt_0, ixAt_1, ixAt_2, ixAt_3, iEq_int, iNe_int, dAdd, iAdd, iSub, iNeg, iCmp, iLe, iLt, iGe, iGt, dMul, iMulT, iMul, iMod, iDiv, gIx, setIx, decide_true, decide_false, decide_eq_true_eq, Bool.not_eq_true, List.length_map, gets_ok, gets_bind, gets_ite, rsw_ite, rsw_seq, rsw_thn, rsw_nx, rsw_ret, rst_x, rsx_seq, rsx_nx, rsx_ret, rsx_brk, rsx_cont, rsx_ite, rsx_thn, gets_fnM, onlyP, Option.map_some, Src.items]
  refine draw_w hw (by decide) (by decide) fun a w1 ha hw1 => ?_
  simp only [mVar, mK, mBin, mUn, mTru, mTest, mAnd, mOr, mNot, mAndV, mOrV, mNotV, mIf, mNil, mCons, mTup, mLst, mLstF, mCall, mChain, mIsi, fIsi, tyD, tyP, mSlice, oNo, oSome, mSeq, srcOf, mRange1, mRange2, sNext, sSeq, sIf, sRet, sRetN, sExpr, sSet, sAsg, sAug, sFor, sRaise, gSet, gMore, gNone, Mp.gTup, mMeth, fAppend, fLen, fInt, truth, ptruth, asB, pp1, pp2, ret1, dIs, isN, allP, frzD, mFrz, List.map_cons, List.map_nil, List.cons_append, List.nil_append, List.length_cons, List.length_nil, List.getElem?_cons_zero, List.getElem?_cons_succ, List.getElem?_nil, List.set_cons_zero, List.set_cons_succ, if_true, ite_true, Nat.reduceAdd, Nat.reduceSub, List.replicate, Bool.false_eq_true, if_false, Bool.not_true, Bool.not_false, mp_ft, mp_tf, isTy, beq_self_eq_true, isi0, isi1, isi2, isi3, isi4, isi5, isi6, isi7, isi8, isi9, isi10, isi11, isi12, isi13, isi14, isi15, isi16, isi17, isi18, isi19, isi20, isi21, isi22, isi23, isi24, isi25, isi26, isi27, isi28, isi29, isi30, isi31, isi32, isi33, isi34, isi35, isi36, isi37, isi38, isi39, isi40, isi41, onlyF, dIx_tup, dIx_lst, dIx_ref, ixAt_0, ixAt_1, ixAt_2, ixAt_3, iEq_int, iNe_int, dAdd, iAdd, iSub, iNeg, iCmp, iLe, iLt, iGe, iGt, dMul, iMulT, iMul, iMod, iDiv, gIx, setIx, decide_true, decide_false, decide_eq_true_eq, Bool.not_eq_true, List.length_map, gets_ok, gets_bind, gets_ite, rsw_ite, rsw_seq, rsw_thn, rsw_nx, rsw_ret, rst_x, rsx_seq, rsx_nx, rsx_ret, rsx_brk, rsx_cont, rsx_ite, rsx_thn, gets_fnM, onlyP, Option.map_some, Src.items]
  refine draw_w hw1 (by decide) (by decide) fun b w2 hb hw2 => ?_
  simp only [mVar, mK, mBin, mUn, mTru, mTest, mAnd, mOr, mNot, mAndV, mOrV, mNotV, mIf, mNil, mCons, mTup, mLst, mLstF, mCall, mChain, mIsi, fIsi, tyD, tyP, mSlice, oNo, oSome, mSeq, srcOf, mRange1, mRange2, sNext, sSeq, sIf, sRet, sRetN, sExpr, sSet, sAsg, sAug, sFor, sRaise, gSet, gMore, gNone, Mp.gTup, mMeth, fAppend, fLen, fInt, truth, ptruth, asB, pp1, pp2, ret1, dIs, isN, allP, frzD, mFrz, List.map_cons, List.map_nil, List.cons_append, List.nil_append, List.length_cons, List.length_nil, List.getElem?_cons_zero, List.getElem?_cons_succ, List.getElem?_nil, List.set_cons_zero, List.set_cons_succ, if_true, ite_true, Nat.reduceAdd, Nat.reduceSub, List.replicate, Bool.false_eq_true, if_false, Bool.not_true, Bool.not_false, mp_ft, mp_tf, isTy, beq_self_eq_true, isi0, isi1, isi2, isi3, isi4, isi5, isi6, isi7, isi8, isi9, isi10, isi11, isi12, isi13, isi14, isi15, isi16, isi17, isi18, isi19, isi20, isi21, isi22, isi23, isi24, isi25, isi26, isi27, isi28, isi29, isi30, isi31, isi32, isi33, isi34, isi35, isi36, isi37, isi38, isi39, isi40, isi41, onlyF, dIx_tup, dIx_lst, dIx_ref, ixAt_0, ixAt_1, ixAt_2, ixAt_3, iEq_int, iNe_int, dAdd, iAdd, iSub, iNeg, iCmp, iLe, iLt, iGe, iGt, dMul, iMulT, iMul, iMod, iDiv, gIx, setIx, decide_true, decide_false, decide_eq_true_eq, Bool.not_eq_true, List.length_map, gets_ok, gets_bind, gets_ite, rsw_ite, rsw_seq, rsw_thn, rsw_nx, rsw_ret, rst_x, rsx_seq, rsx_nx, rsx_ret, rsx_brk, rsx_cont, rsx_ite, rsx_thn, gets_fnM, onlyP, Option.map_some, Src.items]
  refine draw_w hw2 (by decide) (by decide) fun c w3 hc hw3 => ?_
  have z3 : sizeOk 3 = true := by decide
  have z5 : sizeOk 5 = true := by decide
  simp only [mVar, mK, mBin, mUn, mTru, mTest, mAnd, mOr, mNot, mAndV, mOrV, mNotV, mIf, mNil, mCons, mTup, mLst, mLstF, mCall, mChain, mIsi, fIsi, tyD, tyP, mSlice, oNo, oSome, mSeq, srcOf, mRange1, mRange2, sNext, sSeq, sIf, sRet, sRetN, sExpr, sSet, sAsg, sAug, sFor, sRaise, gSet, gMore, gNone, Mp.gTup, mMeth, fAppend, fLen, fInt, truth, ptruth, asB, pp1, pp2, ret1, dIs, isN, allP, frzD, mFrz, List.map_cons, List.map_nil, List.cons_append, List.nil_append, List.length_cons, List.length_nil, List.getElem?_cons_zero, List.getElem?_cons_succ, List.getElem?_nil, List.set_cons_zero, List.set_cons_succ, if_true, ite_true, Nat.reduceAdd, Nat.reduceSub, List.replicate, Bool.false_eq_true, if_false, Bool.not_true, Bool.not_false, mp_ft, mp_tf, isTy, beq_self_eq_true, isi0, isi1, isi2, isi3, isi4, isi5, isi6, isi7, isi8, isi9, isi10, isi11, isi12, isi13, isi14, isi15, isi16, isi17, isi18, isi19, isi20, isi21, isi22, isi23, isi24, isi25, isi26, isi27, isi28, isi29, isi30, isi31, isi32, isi33, isi34, isi35, isi36, isi37, isi38, isi39, isi40, isi41, onlyF, dIx_tup, dIx_lst, dIx_ref, ixAt_0, ixAt_1, ixAt_2, ixAt_3, iEq_int, iNe_int, dAdd, iAdd, iSub, iNeg, iCmp, iLe, iLt, iGe, iGt, dMul, iMulT, iMul, iMod, iDiv, gIx, setIx, decide_true, decide_false, decide_eq_true_eq, Bool.not_eq_true, List.length_map, gets_ok, gets_bind, gets_ite, rsw_ite, rsw_seq, rsw_thn, rsw_nx, rsw_ret, rst_x, rsx_seq, rsx_nx, rsx_ret, rsx_brk, rsx_cont, rsx_ite, rsx_thn, gets_fnM, onlyP, Option.map_some, Src.items, z3, z5]
  refine draw_w hw3 (by decide) (by decide) fun r w4 hr hw4 => ?_
  simp only [mVar, mK, mBin, mUn, mTru, mTest, mAnd, mOr, mNot, mAndV, mOrV, mNotV, mIf, mNil, mCons, mTup, mLst, mLstF, mCall, mChain, mIsi, fIsi, tyD, tyP, mSlice, oNo, oSome, mSeq, srcOf, mRange1, mRange2, sNext, sSeq, sIf, sRet, sRetN, sExpr, sSet, sAsg, sAug, sFor, sRaise, gSet, gMore, gNone, Mp.gTup, mMeth, fAppend, fLen, fInt, truth, ptruth, asB, pp1, pp2, ret1, dIs, isN, allP, frzD, mFrz, List.map_cons, List.map_nil, List.cons_append, List.nil_append, List.length_cons, List.length_nil, List.getElem?_cons_zero, List.getElem?_cons_succ, List.getElem?_nil, List.set_cons_zero, List.set_cons_succ, if_true, ite_true, Nat.reduceAdd, Nat.reduceSub, List.replicate, Bool.false_eq_true, if_false, Bool.not_true, Bool.not_false, mp_ft, mp_tf, isTy, beq_self_eq_true, isi0, isi1, isi2, isi3, isi4, isi5, isi6, isi7, isi8, isi9, isi10, isi11, isi12, isi13, isi14, isi15, isi16, isi17, isi18, isi19, isi20, isi21, isi22, isi23, isi24, isi25, isi26, isi27, isi28, isi29, isi30, isi31, isi32, isi33, isi34, isi35, isi36, isi37, isi38, isi39, isi40, isi41, onlyF, dIx_tup, dIx_lst, dIx_ref, ixAt_0, ixAt_1, ixAt_2, ixAt_3, iEq_int, iNe_int, dAdd, iAdd, iSub, iNeg, iCmp, iLe, iLt, iGe, iGt, dMul, iMulT, iMul, iMod, iDiv, gIx, setIx, decide_true, decide_false, decide_eq_true_eq, Bool.not_eq_true, List.length_map, gets_ok, gets_bind, gets_ite, rsw_ite, rsw_seq, rsw_thn, rsw_nx, rsw_ret, rst_x, rsx_seq, rsx_nx, rsx_ret, rsx_brk, rsx_cont, rsx_ite, rsx_thn, gets_fnM, onlyP, Option.map_some, Src.items]
  refine ix_w (by simp; omega) ?_
  have k1 : ∃ x, PyData.int a = x ∧ Q (.p x) ⟨g, w4⟩ := ⟨_, rfl, h a w4 (by omega) hw4⟩
  have k2 : ∃ x, PyData.int b = x ∧ Q (.p x) ⟨g, w4⟩ := ⟨_, rfl, h b w4 (by omega) hw4⟩
  have k3 : ∃ x, PyData.int c = x ∧ Q (.p x) ⟨g, w4⟩ := ⟨_, rfl, h c w4 (by omega) hw4⟩
  simp [pureRun, onlyP, fnM, mVar, mK, mBin, mUn, mTru, mTest, mAnd, mOr, mNot, mAndV, mOrV, mNotV, mIf, mNil, mCons, mTup, mLst, mLstF, mCall, mChain, mIsi, fIsi, tyD, tyP, mSlice, oNo, oSome, mSeq, srcOf, mRange1, mRange2, sNext, sSeq, sIf, sRet, sRetN, sExpr, sSet, sAsg, sAug, sFor, sRaise, gSet, gMore, gNone, Mp.gTup, mMeth, fAppend, fLen, fInt, truth, ptruth, asB, pp1, pp2, ret1, dIs, isN, allP, frzD, mFrz, Mp.R.bind, R.thn, RS.seq, List.map_cons, List.map_nil, List.cons_append, List.nil_append, List.length_cons, List.length_nil, List.getElem?_cons_zero, List.getElem?_cons_succ, List.getElem?_nil, List.set_cons_zero, List.set_cons_succ, if_true, ite_true, Nat.reduceAdd, Nat.reduceSub, List.replicate, Bool.false_eq_true, if_false, Bool.not_true, Bool.not_false, mp_ft, mp_tf, isTy, beq_self_eq_true, isi0, isi1, isi2, isi3, isi4, isi5, isi6, isi7, isi8, isi9, isi10, isi11, isi12, isi13, isi14, isi15, isi16, isi17, isi18, isi19, isi20, isi21, isi22, isi23, isi24, isi25, isi26, isi27, isi28, isi29, isi30, isi31, isi32, isi33, isi34, isi35, isi36, isi37, isi38, isi39, isi40, isi41, onlyF, dIx_tup, dIx_lst, dIx_ref, ixAt_0, ixAt_1, ixAt_2, ixAt_3, iEq_int, iNe_int, dAdd, iAdd, iSub, iNeg, iCmp, iLe, iLt, iGe, iGt, dMul, iMulT, iMul, iMod, iDiv, gIx, setIx, decide_true, decide_false, decide_eq_true_eq, Bool.not_eq_true, List.length_map, gets_ok, k1, k2, k3, h a w4 (by omega) hw4, h b w4 (by omega) hw4, h c w4 (by omega) hw4]

/-! _law_step -/
theorem sc__law_step : FnScope ["_law_well_here", "_law_states", "_law_lack"] ["_law_well_here", "_law_states", "_law_lack"] (defScope t__law_step) := ⟨rfl, rfl, rfl, by decide +kernel, rfl, by decide +kernel, by decide +kernel⟩
theorem bn__law_step : BindN "_law_step" t__law_step ["_law_well_here", "_law_states", "_law_lack"] := fun _ _ _ _ _ _ us hl => match us, hl with | [_, _, _], _ => rfl
noncomputable def b__law_step : MS := (sSeq (sIf (mTest (mBin (pp2 iLt) (mCall M__law_draw (mCons (mVar 0) (mCons (mK (.int 6)) mNil))) (mVar 2))) (sRet (mK .none)) sNext) (sRet (mTup (mCons (mCall M__law_more (mCons (mVar 0) mNil)) (mCons (mCall M__law_draw (mCons (mVar 0) (mCons (mVar 1) mNil))) mNil)))))
theorem raw__law_step (N : Nm K mg) : DefOk P w K mg base "_law_step" 5 3 (fnM 3 3 b__law_step) := def_mk N.d__law_step sc__law_step bn__law_step rfl rfl fun f cdv A outer s H E hr nd tk hp => (ss_cons (s_if (t_cmp o_ltP (e_callS (ok__law_draw N) hr (by decide) tk (a_cons (e_var (i := 0)) (a_cons e_int a_nil)) (argN_cons (argN_cons argN_nil))) (e_var (i := 2)) (nomark _)) (ss_one (s_ret e_none)) ss_nil) (ss_one (s_ret (e_tup (a_cons (e_callS (ok__law_more N) hr (by decide) tk (a_cons (e_var (i := 0)) a_nil) (argN_cons argN_nil)) (a_cons (e_callS (ok__law_draw N) hr (by decide) tk (a_cons (e_var (i := 0)) (a_cons (e_var (i := 1)) a_nil)) (argN_cons (argN_cons argN_nil))) a_nil))))))
noncomputable def M__law_step : List D → S → R D := pureRun (fnM 3 3 b__law_step)
theorem ok__law_step (N : Nm K mg) : DefOk P w K mg base "_law_step" 5 3 M__law_step := (raw__law_step N).alone
theorem step_w {g w : GH} {q : Nat} {l : Int} {Q : D → S → Prop} (hw : WA w) (hq : 0 < q) (hq2 : q < 1000000) (h : ∀ (s : MSt) (w' : GH), MSt.Ok q s → WA w' → Q (.p (eS s)) ⟨g, w'⟩) : Gets (M__law_step [.well 0, .p (.int q), .p (.int l)] ⟨g, w⟩) Q := by
  refine pure_gets rfl ?_
  simp only [b__law_step, mVar, mK, mBin, mUn, mTru, mTest, mAnd, mOr, mNot, mAndV, mOrV, mNotV, mIf, mNil, mCons, mTup, mLst, mLstF, mCall, mChain, mIsi, fIsi, tyD, tyP, mSlice, oNo, oSome, mSeq, srcOf, mRange1, mRange2, sNext, sSeq, sIf, sRet, sRetN, sExpr, sSet, sAsg, sAug, sFor, sRaise, gSet, gMore, gNone, Mp.gTup, mMeth, fAppend, fLen, fInt, truth, ptruth, asB, pp1, pp2, ret1, dIs, isN, allP, frzD, mFrz, List.map_cons, List.map_nil, List.cons_append, List.nil_append, List.length_cons, List.length_nil, List.getElem?_cons_zero, List.getElem?_cons_succ, List.getElem?_nil, List.set_cons_zero, List.set_cons_succ, if_true, ite_true, Nat.reduceAdd, Nat.reduceSub, List.replicate, Bool.false_eq_true, if_false, Bool.not_true, Bool.not_false, mp_ft, mp_tf, isTy, beq_self_eq_true, isi0, isi1, isi2, isi3, isi4, isi5, isi6, isi7, isi8, isi9, isi10, isi11, isi12, isi13, isi14, isi15, isi16, isi17, isi18, isi19, isi20, isi21, isi22, isi23, isi24, isi25, isi26, isi27, isi28, isi29, isi30, isi31, isi32, isi33, isi34, isi35, isi36, isi37, isi38, isi39, isi40, isi41, onlyF, dIx_tup, dIx_lst, dIx_ref, ixAt_0, ixAt_1, ixAt_2, ixAt_3, iEq_int, iNe_int, dAdd, iAdd, iSub, iNeg, iCmp, iLe, iLt, iGe, iGt, dMul, iMulT, iMul, iMod, iDiv, gIx, setIx, decide_true, decide_false, decide_eq_true_eq, Bool.not_eq_true, List.length_map, gets_ok, gets_bind, gets_ite, rsw_ite, rsw_seq, rsw_thn, rsw_nx, rsw_ret, rst_x, rsx_seq, rsx_nx, rsx_ret, rsx_brk, rsx_cont, rsx_ite, rsx_thn, gets_fnM, onlyP, Option.map_some, Src.items]
  refine draw_w hw (by decide) (by decide) fun a w1 ha hw1 => ?_
  simp only [mVar, mK, mBin, mUn, mTru, mTest, mAnd, mOr, mNot, mAndV, mOrV, mNotV, mIf, mNil, mCons, mTup, mLst, mLstF, mCall, mChain, mIsi, fIsi, tyD, tyP, mSlice, oNo, oSome, mSeq, srcOf, mRange1, mRange2, sNext, sSeq, sIf, sRet, sRetN, sExpr, sSet, sAsg, sAug, sFor, sRaise, gSet, gMore, gNone, Mp.gTup, mMeth, fAppend, fLen, fInt, truth, ptruth, asB, pp1, pp2, ret1, dIs, isN, allP, frzD, mFrz, List.map_cons, List.map_nil, List.cons_append, List.nil_append, List.length_cons, List.length_nil, List.getElem?_cons_zero, List.getElem?_cons_succ, List.getElem?_nil, List.set_cons_zero, List.set_cons_succ, if_true, ite_true, Nat.reduceAdd, Nat.reduceSub, List.replicate, Bool.false_eq_true, if_false, Bool.not_true, Bool.not_false, mp_ft, mp_tf, isTy, beq_self_eq_true, isi0, isi1, isi2, isi3, isi4, isi5, isi6, isi7, isi8, isi9, isi10, isi11, isi12, isi13, isi14, isi15, isi16, isi17, isi18, isi19, isi20, isi21, isi22, isi23, isi24, isi25, isi26, isi27, isi28, isi29, isi30, isi31, isi32, isi33, isi34, isi35, isi36, isi37, isi38, isi39, isi40, isi41, onlyF, dIx_tup, dIx_lst, dIx_ref, ixAt_0, ixAt_1, ixAt_2, ixAt_3, iEq_int, iNe_int, dAdd, iAdd, iSub, iNeg, iCmp, iLe, iLt, iGe, iGt, dMul, iMulT, iMul, iMod, iDiv, gIx, setIx, decide_true, decide_false, decide_eq_true_eq, Bool.not_eq_true, List.length_map, gets_ok, gets_bind, gets_ite, rsw_ite, rsw_seq, rsw_thn, rsw_nx, rsw_ret, rst_x, rsx_seq, rsx_nx, rsx_ret, rsx_brk, rsx_cont, rsx_ite, rsx_thn, gets_fnM, onlyP, Option.map_some, Src.items]
  by_cases hl : (a : Int) < l
  · simp only [hl, mVar, mK, mBin, mUn, mTru, mTest, mAnd, mOr, mNot, mAndV, mOrV, mNotV, mIf, mNil, mCons, mTup, mLst, mLstF, mCall, mChain, mIsi, fIsi, tyD, tyP, mSlice, oNo, oSome, mSeq, srcOf, mRange1, mRange2, sNext, sSeq, sIf, sRet, sRetN, sExpr, sSet, sAsg, sAug, sFor, sRaise, gSet, gMore, gNone, Mp.gTup, mMeth, fAppend, fLen, fInt, truth, ptruth, asB, pp1, pp2, ret1, dIs, isN, allP, frzD, mFrz, List.map_cons, List.map_nil, List.cons_append, List.nil_append, List.length_cons, List.length_nil, List.getElem?_cons_zero, List.getElem?_cons_succ, List.getElem?_nil, List.set_cons_zero, List.set_cons_succ, if_true, ite_true, Nat.reduceAdd, Nat.reduceSub, List.replicate, Bool.false_eq_true, if_false, Bool.not_true, Bool.not_false, mp_ft, mp_tf, isTy, beq_self_eq_true, isi0, isi1, isi2, isi3, isi4, isi5, isi6, isi7, isi8, isi9, isi10, isi11, isi12, isi13, isi14, isi15, isi16, isi17, isi18, isi19, isi20, isi21, isi22, isi23, isi24, isi25, isi26, isi27, isi28, isi29, isi30, isi31, isi32, isi33, isi34, isi35, isi36, isi37, isi38, isi39, isi40, isi41, onlyF, dIx_tup, dIx_lst, dIx_ref, ixAt_0, ixAt_1, ixAt_2, ixAt_3, iEq_int, iNe_int, dAdd, iAdd, iSub, iNeg, iCmp, iLe, iLt, iGe, iGt, dMul, iMulT, iMul, iMod, iDiv, gIx, setIx, decide_true, decide_false, decide_eq_true_eq, Bool.not_eq_true, List.length_map, gets_ok, gets_bind, gets_ite, rsw_ite, rsw_seq, rsw_thn, rsw_nx, rsw_ret, rst_x, rsx_seq, rsx_nx, rsx_ret, rsx_brk, rsx_cont, rsx_ite, rsx_thn, gets_fnM, onlyP, Option.map_some, Src.items]
    exact ⟨_, rfl, h none w1 (fun p e => by cases e) hw1⟩
  · simp only [hl, mVar, mK, mBin, mUn, mTru, mTest, mAnd, mOr, mNot, mAndV, mOrV, mNotV, mIf, mNil, mCons, mTup, mLst, mLstF, mCall, mChain, mIsi, fIsi, tyD, tyP, mSlice, oNo, oSome, mSeq, srcOf, mRange1, mRange2, sNext, sSeq, sIf, sRet, sRetN, sExpr, sSet, sAsg, sAug, sFor, sRaise, gSet, gMore, gNone, Mp.gTup, mMeth, fAppend, fLen, fInt, truth, ptruth, asB, pp1, pp2, ret1, dIs, isN, allP, frzD, mFrz, List.map_cons, List.map_nil, List.cons_append, List.nil_append, List.length_cons, List.length_nil, List.getElem?_cons_zero, List.getElem?_cons_succ, List.getElem?_nil, List.set_cons_zero, List.set_cons_succ, if_true, ite_true, Nat.reduceAdd, Nat.reduceSub, List.replicate, Bool.false_eq_true, if_false, Bool.not_true, Bool.not_false, mp_ft, mp_tf, isTy, beq_self_eq_true, isi0, isi1, isi2, isi3, isi4, isi5, isi6, isi7, isi8, isi9, isi10, isi11, isi12, isi13, isi14, isi15, isi16, isi17, isi18, isi19, isi20, isi21, isi22, isi23, isi24, isi25, isi26, isi27, isi28, isi29, isi30, isi31, isi32, isi33, isi34, isi35, isi36, isi37, isi38, isi39, isi40, isi41, onlyF, dIx_tup, dIx_lst, dIx_ref, ixAt_0, ixAt_1, ixAt_2, ixAt_3, iEq_int, iNe_int, dAdd, iAdd, iSub, iNeg, iCmp, iLe, iLt, iGe, iGt, dMul, iMulT, iMul, iMod, iDiv, gIx, setIx, decide_true, decide_false, decide_eq_true_eq, Bool.not_eq_true, List.length_map, gets_ok, gets_bind, gets_ite, rsw_ite, rsw_seq, rsw_thn, rsw_nx, rsw_ret, rst_x, rsx_seq, rsx_nx, rsx_ret, rsx_brk, rsx_cont, rsx_ite, rsx_thn, gets_fnM, onlyP, Option.map_some, Src.items]
    refine more_w hw1 fun b w2 hb hw2 => ?_
    simp only [mVar, mK, mBin, mUn, mTru, mTest, mAnd, mOr, mNot, mAndV, mOrV, mNotV, mIf, mNil, mCons, mTup, mLst, mLstF, mCall, mChain, mIsi, fIsi, tyD, tyP, mSlice, oNo, oSome, mSeq, srcOf, mRange1, mRange2, sNext, sSeq, sIf, sRet, sRetN, sExpr, sSet, sAsg, sAug, sFor, sRaise, gSet, gMore, gNone, Mp.gTup, mMeth, fAppend, fLen, fInt, truth, ptruth, asB, pp1, pp2, ret1, dIs, isN, allP, frzD, mFrz, List.map_cons, List.map_nil, List.cons_append, List.nil_append, List.length_cons, List.length_nil, List.getElem?_cons_zero, List.getElem?_cons_succ, List.getElem?_nil, List.set_cons_zero, List.set_cons_succ, if_true, ite_true, Nat.reduceAdd, Nat.reduceSub, List.replicate, Bool.false_eq_true, if_false, Bool.not_true, Bool.not_false, mp_ft, mp_tf, isTy, beq_self_eq_true, isi0, isi1, isi2, isi3, isi4, isi5, isi6, isi7, isi8, isi9, isi10, isi11, isi12, isi13, isi14, isi15, isi16, isi17, isi18, isi19, isi20, isi21, isi22, isi23, isi24, isi25, isi26, isi27, isi28, isi29, isi30, isi31, isi32, isi33, isi34, isi35, isi36, isi37, isi38, isi39, isi40, isi41, onlyF, dIx_tup, dIx_lst, dIx_ref, ixAt_0, ixAt_1, ixAt_2, ixAt_3, iEq_int, iNe_int, dAdd, iAdd, iSub, iNeg, iCmp, iLe, iLt, iGe, iGt, dMul, iMulT, iMul, iMod, iDiv, gIx, setIx, decide_true, decide_false, decide_eq_true_eq, Bool.not_eq_true, List.length_map, gets_ok, gets_bind, gets_ite, rsw_ite, rsw_seq, rsw_thn, rsw_nx, rsw_ret, rst_x, rsx_seq, rsx_nx, rsx_ret, rsx_brk, rsx_cont, rsx_ite, rsx_thn, gets_fnM, onlyP, Option.map_some, Src.items]
    refine draw_w hw2 (by omega) (by omega) fun c w3 hc hw3 => ?_
    have z2 : sizeOk 2 = true := by decide
    simp only [mVar, mK, mBin, mUn, mTru, mTest, mAnd, mOr, mNot, mAndV, mOrV, mNotV, mIf, mNil, mCons, mTup, mLst, mLstF, mCall, mChain, mIsi, fIsi, tyD, tyP, mSlice, oNo, oSome, mSeq, srcOf, mRange1, mRange2, sNext, sSeq, sIf, sRet, sRetN, sExpr, sSet, sAsg, sAug, sFor, sRaise, gSet, gMore, gNone, Mp.gTup, mMeth, fAppend, fLen, fInt, truth, ptruth, asB, pp1, pp2, ret1, dIs, isN, allP, frzD, mFrz, List.map_cons, List.map_nil, List.cons_append, List.nil_append, List.length_cons, List.length_nil, List.getElem?_cons_zero, List.getElem?_cons_succ, List.getElem?_nil, List.set_cons_zero, List.set_cons_succ, if_true, ite_true, Nat.reduceAdd, Nat.reduceSub, List.replicate, Bool.false_eq_true, if_false, Bool.not_true, Bool.not_false, mp_ft, mp_tf, isTy, beq_self_eq_true, isi0, isi1, isi2, isi3, isi4, isi5, isi6, isi7, isi8, isi9, isi10, isi11, isi12, isi13, isi14, isi15, isi16, isi17, isi18, isi19, isi20, isi21, isi22, isi23, isi24, isi25, isi26, isi27, isi28, isi29, isi30, isi31, isi32, isi33, isi34, isi35, isi36, isi37, isi38, isi39, isi40, isi41, onlyF, dIx_tup, dIx_lst, dIx_ref, ixAt_0, ixAt_1, ixAt_2, ixAt_3, iEq_int, iNe_int, dAdd, iAdd, iSub, iNeg, iCmp, iLe, iLt, iGe, iGt, dMul, iMulT, iMul, iMod, iDiv, gIx, setIx, decide_true, decide_false, decide_eq_true_eq, Bool.not_eq_true, List.length_map, gets_ok, gets_bind, gets_ite, rsw_ite, rsw_seq, rsw_thn, rsw_nx, rsw_ret, rst_x, rsx_seq, rsx_nx, rsx_ret, rsx_brk, rsx_cont, rsx_ite, rsx_thn, gets_fnM, onlyP, Option.map_some, Src.items, z2]
    exact ⟨_, rfl, h (some (b, c)) w3 (fun p e => by cases e; exact ⟨hb, by show c < q; omega⟩) hw3⟩

/-! _law_end -/
theorem sc__law_end : FnScope ["_law_well_here", "_law_lack"] ["_law_well_here", "_law_lack"] (defScope t__law_end) := ⟨rfl, rfl, rfl, by decide +kernel, rfl, by decide +kernel, by decide +kernel⟩
theorem bn__law_end : BindN "_law_end" t__law_end ["_law_well_here", "_law_lack"] := fun _ _ _ _ _ _ us hl => match us, hl with | [_, _], _ => rfl
noncomputable def b__law_end : MS := (sSeq (sIf (mTest (mBin (pp2 iLt) (mCall M__law_draw (mCons (mVar 0) (mCons (mK (.int 6)) mNil))) (mVar 1))) (sRet (mK .none)) sNext) (sRet (mBin dIx (mLstF (mCons (mBin dAdd (mK (.int 1)) (mCall M__law_draw (mCons (mVar 0) (mCons (mK (.int 4)) mNil)))) (mCons (mBin dAdd (mK (.int 1)) (mCall M__law_draw (mCons (mVar 0) (mCons (mK (.int 60)) mNil)))) mNil))) (mCall fInt (mCons (mBin (pp2 iEq) (mCall M__law_draw (mCons (mVar 0) (mCons (mK (.int 5)) mNil))) (mK (.int 0))) mNil)))))
theorem raw__law_end (N : Nm K mg) : DefOk P w K mg base "_law_end" 4 2 (fnM 2 2 b__law_end) := def_mk N.d__law_end sc__law_end bn__law_end rfl rfl fun f cdv A outer s H E hr nd tk hp => (ss_cons (s_if (t_cmp o_ltP (e_callS (ok__law_draw N) hr (by decide) tk (a_cons (e_var (i := 0)) (a_cons e_int a_nil)) (argN_cons (argN_cons argN_nil))) (e_var (i := 1)) (nomark _)) (ss_one (s_ret e_none)) ss_nil) (ss_one (s_ret (e_ix (e_lstF (a_cons (e_bin o_add e_int (e_callS (ok__law_draw N) hr (by decide) tk (a_cons (e_var (i := 0)) (a_cons e_int a_nil)) (argN_cons (argN_cons argN_nil)))) (a_cons (e_bin o_add e_int (e_callS (ok__law_draw N) hr (by decide) tk (a_cons (e_var (i := 0)) (a_cons e_int a_nil)) (argN_cons (argN_cons argN_nil)))) a_nil))) (e_ty b_int rfl N.f_int bt_int (a_cons (e_cmp (o_eq hr.units) (e_callS (ok__law_draw N) hr (by decide) tk (a_cons (e_var (i := 0)) (a_cons e_int a_nil)) (argN_cons (argN_cons argN_nil))) e_int (nomark _)) a_nil))))))
noncomputable def M__law_end : List D → S → R D := pureRun (fnM 2 2 b__law_end)
theorem ok__law_end (N : Nm K mg) : DefOk P w K mg base "_law_end" 4 2 M__law_end := (raw__law_end N).alone
theorem end_w {g w : GH} {l : Int} {Q : D → S → Prop} (hw : WA w) (h : ∀ (o : Option Nat) (w' : GH), (∀ k, o = some k → 1 ≤ k ∧ k ≤ 60) → WA w' → Q (.p (eO o)) ⟨g, w'⟩) : Gets (M__law_end [.well 0, .p (.int l)] ⟨g, w⟩) Q := by
  refine pure_gets rfl ?_
  simp only [b__law_end, mVar, mK, mBin, mUn, mTru, mTest, mAnd, mOr, mNot, mAndV, mOrV, mNotV, mIf, mNil, mCons, mTup, mLst, mLstF, mCall, mChain, mIsi, fIsi, tyD, tyP, mSlice, oNo, oSome, mSeq, srcOf, mRange1, mRange2, sNext, sSeq, sIf, sRet, sRetN, sExpr, sSet, sAsg, sAug, sFor, sRaise, gSet, gMore, gNone, Mp.gTup, mMeth, fAppend, fLen, fInt, truth, ptruth, asB, pp1, pp2, ret1, dIs, isN, allP, frzD, mFrz, List.map_cons, List.map_nil, List.cons_append, List.nil_append, List.length_cons, List.length_nil, List.getElem?_cons_zero, List.getElem?_cons_succ, List.getElem?_nil, List.set_cons_zero, List.set_cons_succ, if_true, ite_true, Nat.reduceAdd, Nat.reduceSub, List.replicate, Bool.false_eq_true, if_false, Bool.not_true, Bool.not_false, mp_ft, mp_tf, isTy, beq_self_eq_true, isi0, isi1, isi2, isi3, isi4, isi5, isi6, isi7, isi8, isi9, isi10, isi11, isi12, isi13, isi14, isi15, isi16, isi17, isi18, isi19, isi20, isi21, isi22, isi23, isi24, isi25, isi26, isi27, isi28, isi29, isi30, isi31, isi32, isi33, isi34, isi35, isi36, isi37, isi38, isi39, isi40, isi41, onlyF, dIx_tup, dIx_lst, dIx_ref, ixAt_0, ixAt_1, ixAt_2, ixAt_3, iEq_int, iNe_int, dAdd, iAdd, iSub, iNeg, iCmp, iLe, iLt, iGe, iGt, dMul, iMulT, iMul, iMod, iDiv, gIx, setIx, decide_true, decide_false, decide_eq_true_eq, Bool.not_eq_true, List.length_map, gets_ok, gets_bind, gets_ite, rsw_ite, rsw_seq, rsw_thn, rsw_nx, rsw_ret, rst_x, rsx_seq, rsx_nx, rsx_ret, rsx_brk, rsx_cont, rsx_ite, rsx_thn, gets_fnM, onlyP, Option.map_some, Src.items]
  refine draw_w hw (by decide) (by decide) fun a w1 ha hw1 => ?_
  simp only [mVar, mK, mBin, mUn, mTru, mTest, mAnd, mOr, mNot, mAndV, mOrV, mNotV, mIf, mNil, mCons, mTup, mLst, mLstF, mCall, mChain, mIsi, fIsi, tyD, tyP, mSlice, oNo, oSome, mSeq, srcOf, mRange1, mRange2, sNext, sSeq, sIf, sRet, sRetN, sExpr, sSet, sAsg, sAug, sFor, sRaise, gSet, gMore, gNone, Mp.gTup, mMeth, fAppend, fLen, fInt, truth, ptruth, asB, pp1, pp2, ret1, dIs, isN, allP, frzD, mFrz, List.map_cons, List.map_nil, List.cons_append, List.nil_append, List.length_cons, List.length_nil, List.getElem?_cons_zero, List.getElem?_cons_succ, List.getElem?_nil, List.set_cons_zero, List.set_cons_succ, if_true, ite_true, Nat.reduceAdd, Nat.reduceSub, List.replicate, Bool.false_eq_true, if_false, Bool.not_true, Bool.not_false, mp_ft, mp_tf, isTy, beq_self_eq_true, isi0, isi1, isi2, isi3, isi4, isi5, isi6, isi7, isi8, isi9, isi10, isi11, isi12, isi13, isi14, isi15, isi16, isi17, isi18, isi19, isi20, isi21, isi22, isi23, isi24, isi25, isi26, isi27, isi28, isi29, isi30, isi31, isi32, isi33, isi34, isi35, isi36, isi37, isi38, isi39, isi40, isi41, onlyF, dIx_tup, dIx_lst, dIx_ref, ixAt_0, ixAt_1, ixAt_2, ixAt_3, iEq_int, iNe_int, dAdd, iAdd, iSub, iNeg, iCmp, iLe, iLt, iGe, iGt, dMul, iMulT, iMul, iMod, iDiv, gIx, setIx, decide_true, decide_false, decide_eq_true_eq, Bool.not_eq_true, List.length_map, gets_ok, gets_bind, gets_ite, rsw_ite, rsw_seq, rsw_thn, rsw_nx, rsw_ret, rst_x, rsx_seq, rsx_nx, rsx_ret, rsx_brk, rsx_cont, rsx_ite, rsx_thn, gets_fnM, onlyP, Option.map_some, Src.items]
  by_cases hl : (a : Int) < l
  · simp only [hl, mVar, mK, mBin, mUn, mTru, mTest, mAnd, mOr, mNot, mAndV, mOrV, mNotV, mIf, mNil, mCons, mTup, mLst, mLstF, mCall, mChain, mIsi, fIsi, tyD, tyP, mSlice, oNo, oSome, mSeq, srcOf, mRange1, mRange2, sNext, sSeq, sIf, sRet, sRetN, sExpr, sSet, sAsg, sAug, sFor, sRaise, gSet, gMore, gNone, Mp.gTup, mMeth, fAppend, fLen, fInt, truth, ptruth, asB, pp1, pp2, ret1, dIs, isN, allP, frzD, mFrz, List.map_cons, List.map_nil, List.cons_append, List.nil_append, List.length_cons, List.length_nil, List.getElem?_cons_zero, List.getElem?_cons_succ, List.getElem?_nil, List.set_cons_zero, List.set_cons_succ, if_true, ite_true, Nat.reduceAdd, Nat.reduceSub, List.replicate, Bool.false_eq_true, if_false, Bool.not_true, Bool.not_false, mp_ft, mp_tf, isTy, beq_self_eq_true, isi0, isi1, isi2, isi3, isi4, isi5, isi6, isi7, isi8, isi9, isi10, isi11, isi12, isi13, isi14, isi15, isi16, isi17, isi18, isi19, isi20, isi21, isi22, isi23, isi24, isi25, isi26, isi27, isi28, isi29, isi30, isi31, isi32, isi33, isi34, isi35, isi36, isi37, isi38, isi39, isi40, isi41, onlyF, dIx_tup, dIx_lst, dIx_ref, ixAt_0, ixAt_1, ixAt_2, ixAt_3, iEq_int, iNe_int, dAdd, iAdd, iSub, iNeg, iCmp, iLe, iLt, iGe, iGt, dMul, iMulT, iMul, iMod, iDiv, gIx, setIx, decide_true, decide_false, decide_eq_true_eq, Bool.not_eq_true, List.length_map, gets_ok, gets_bind, gets_ite, rsw_ite, rsw_seq, rsw_thn, rsw_nx, rsw_ret, rst_x, rsx_seq, rsx_nx, rsx_ret, rsx_brk, rsx_cont, rsx_ite, rsx_thn, gets_fnM, onlyP, Option.map_some, Src.items]
    exact ⟨_, rfl, h none w1 (fun p e => by cases e) hw1⟩
  · simp only [hl, mVar, mK, mBin, mUn, mTru, mTest, mAnd, mOr, mNot, mAndV, mOrV, mNotV, mIf, mNil, mCons, mTup, mLst, mLstF, mCall, mChain, mIsi, fIsi, tyD, tyP, mSlice, oNo, oSome, mSeq, srcOf, mRange1, mRange2, sNext, sSeq, sIf, sRet, sRetN, sExpr, sSet, sAsg, sAug, sFor, sRaise, gSet, gMore, gNone, Mp.gTup, mMeth, fAppend, fLen, fInt, truth, ptruth, asB, pp1, pp2, ret1, dIs, isN, allP, frzD, mFrz, List.map_cons, List.map_nil, List.cons_append, List.nil_append, List.length_cons, List.length_nil, List.getElem?_cons_zero, List.getElem?_cons_succ, List.getElem?_nil, List.set_cons_zero, List.set_cons_succ, if_true, ite_true, Nat.reduceAdd, Nat.reduceSub, List.replicate, Bool.false_eq_true, if_false, Bool.not_true, Bool.not_false, mp_ft, mp_tf, isTy, beq_self_eq_true, isi0, isi1, isi2, isi3, isi4, isi5, isi6, isi7, isi8, isi9, isi10, isi11, isi12, isi13, isi14, isi15, isi16, isi17, isi18, isi19, isi20, isi21, isi22, isi23, isi24, isi25, isi26, isi27, isi28, isi29, isi30, isi31, isi32, isi33, isi34, isi35, isi36, isi37, isi38, isi39, isi40, isi41, onlyF, dIx_tup, dIx_lst, dIx_ref, ixAt_0, ixAt_1, ixAt_2, ixAt_3, iEq_int, iNe_int, dAdd, iAdd, iSub, iNeg, iCmp, iLe, iLt, iGe, iGt, dMul, iMulT, iMul, iMod, iDiv, gIx, setIx, decide_true, decide_false, decide_eq_true_eq, Bool.not_eq_true, List.length_map, gets_ok, gets_bind, gets_ite, rsw_ite, rsw_seq, rsw_thn, rsw_nx, rsw_ret, rst_x, rsx_seq, rsx_nx, rsx_ret, rsx_brk, rsx_cont, rsx_ite, rsx_thn, gets_fnM, onlyP, Option.map_some, Src.items]
    refine draw_w hw1 (by decide) (by decide) fun b w2 hb hw2 => ?_
    simp only [mVar, mK, mBin, mUn, mTru, mTest, mAnd, mOr, mNot, mAndV, mOrV, mNotV, mIf, mNil, mCons, mTup, mLst, mLstF, mCall, mChain, mIsi, fIsi, tyD, tyP, mSlice, oNo, oSome, mSeq, srcOf, mRange1, mRange2, sNext, sSeq, sIf, sRet, sRetN, sExpr, sSet, sAsg, sAug, sFor, sRaise, gSet, gMore, gNone, Mp.gTup, mMeth, fAppend, fLen, fInt, truth, ptruth, asB, pp1, pp2, ret1, dIs, isN, allP, frzD, mFrz, List.map_cons, List.map_nil, List.cons_append, List.nil_append, List.length_cons, List.length_nil, List.getElem?_cons_zero, List.getElem?_cons_succ, List.getElem?_nil, List.set_cons_zero, List.set_cons_succ, if_true, ite_true, Nat.reduceAdd, Nat.reduceSub, List.replicate, Bool.false_eq_true, if_false, Bool.not_true, Bool.not_false, mp_ft, mp_tf, isTy, beq_self_eq_true, isi0, isi1, isi2, isi3, isi4, isi5, isi6, isi7, isi8, isi9, isi10, isi11, isi12, isi13, isi14, isi15, isi16, isi17, isi18, isi19, isi20, isi21, isi22, isi23, isi24, isi25, isi26, isi27, isi28, isi29, isi30, isi31, isi32, isi33, isi34, isi35, isi36, isi37, isi38, isi39, isi40, isi41, onlyF, dIx_tup, dIx_lst, dIx_ref, ixAt_0, ixAt_1, ixAt_2, ixAt_3, iEq_int, iNe_int, dAdd, iAdd, iSub, iNeg, iCmp, iLe, iLt, iGe, iGt, dMul, iMulT, iMul, iMod, iDiv, gIx, setIx, decide_true, decide_false, decide_eq_true_eq, Bool.not_eq_true, List.length_map, gets_ok, gets_bind, gets_ite, rsw_ite, rsw_seq, rsw_thn, rsw_nx, rsw_ret, rst_x, rsx_seq, rsx_nx, rsx_ret, rsx_brk, rsx_cont, rsx_ite, rsx_thn, gets_fnM, onlyP, Option.map_some, Src.items]
    refine draw_w hw2 (by decide) (by decide) fun c w3 hc hw3 => ?_
    have z2 : sizeOk 2 = true := by decide
    simp only [mVar, mK, mBin, mUn, mTru, mTest, mAnd, mOr, mNot, mAndV, mOrV, mNotV, mIf, mNil, mCons, mTup, mLst, mLstF, mCall, mChain, mIsi, fIsi, tyD, tyP, mSlice, oNo, oSome, mSeq, srcOf, mRange1, mRange2, sNext, sSeq, sIf, sRet, sRetN, sExpr, sSet, sAsg, sAug, sFor, sRaise, gSet, gMore, gNone, Mp.gTup, mMeth, fAppend, fLen, fInt, truth, ptruth, asB, pp1, pp2, ret1, dIs, isN, allP, frzD, mFrz, List.map_cons, List.map_nil, List.cons_append, List.nil_append, List.length_cons, List.length_nil, List.getElem?_cons_zero, List.getElem?_cons_succ, List.getElem?_nil, List.set_cons_zero, List.set_cons_succ, if_true, ite_true, Nat.reduceAdd, Nat.reduceSub, List.replicate, Bool.false_eq_true, if_false, Bool.not_true, Bool.not_false, mp_ft, mp_tf, isTy, beq_self_eq_true, isi0, isi1, isi2, isi3, isi4, isi5, isi6, isi7, isi8, isi9, isi10, isi11, isi12, isi13, isi14, isi15, isi16, isi17, isi18, isi19, isi20, isi21, isi22, isi23, isi24, isi25, isi26, isi27, isi28, isi29, isi30, isi31, isi32, isi33, isi34, isi35, isi36, isi37, isi38, isi39, isi40, isi41, onlyF, dIx_tup, dIx_lst, dIx_ref, ixAt_0, ixAt_1, ixAt_2, ixAt_3, iEq_int, iNe_int, dAdd, iAdd, iSub, iNeg, iCmp, iLe, iLt, iGe, iGt, dMul, iMulT, iMul, iMod, iDiv, gIx, setIx, decide_true, decide_false, decide_eq_true_eq, Bool.not_eq_true, List.length_map, gets_ok, gets_bind, gets_ite, rsw_ite, rsw_seq, rsw_thn, rsw_nx, rsw_ret, rst_x, rsx_seq, rsx_nx, rsx_ret, rsx_brk, rsx_cont, rsx_ite, rsx_thn, gets_fnM, onlyP, Option.map_some, Src.items, z2]
    refine draw_w hw3 (by decide) (by decide) fun r w4 hr hw4 => ?_
    simp only [mVar, mK, mBin, mUn, mTru, mTest, mAnd, mOr, mNot, mAndV, mOrV, mNotV, mIf, mNil, mCons, mTup, mLst, mLstF, mCall, mChain, mIsi, fIsi, tyD, tyP, mSlice, oNo, oSome, mSeq, srcOf, mRange1, mRange2, sNext, sSeq, sIf, sRet, sRetN, sExpr, sSet, sAsg, sAug, sFor, sRaise, gSet, gMore, gNone, Mp.gTup, mMeth, fAppend, fLen, fInt, truth, ptruth, asB, pp1, pp2, ret1, dIs, isN, allP, frzD, mFrz, List.map_cons, List.map_nil, List.cons_append, List.nil_append, List.length_cons, List.length_nil, List.getElem?_cons_zero, List.getElem?_cons_succ, List.getElem?_nil, List.set_cons_zero, List.set_cons_succ, if_true, ite_true, Nat.reduceAdd, Nat.reduceSub, List.replicate, Bool.false_eq_true, if_false, Bool.not_true, Bool.not_false, mp_ft, mp_tf, isTy, beq_self_eq_true, isi0, isi1, isi2, isi3, isi4, isi5, isi6, isi7, isi8, isi9, isi10, isi11, isi12, isi13, isi14, isi15, isi16, isi17, isi18, isi19, isi20, isi21, isi22, isi23, isi24, isi25, isi26, isi27, isi28, isi29, isi30, isi31, isi32, isi33, isi34, isi35, isi36, isi37, isi38, isi39, isi40, isi41, onlyF, dIx_tup, dIx_lst, dIx_ref, ixAt_0, ixAt_1, ixAt_2, ixAt_3, iEq_int, iNe_int, dAdd, iAdd, iSub, iNeg, iCmp, iLe, iLt, iGe, iGt, dMul, iMulT, iMul, iMod, iDiv, gIx, setIx, decide_true, decide_false, decide_eq_true_eq, Bool.not_eq_true, List.length_map, gets_ok, gets_bind, gets_ite, rsw_ite, rsw_seq, rsw_thn, rsw_nx, rsw_ret, rst_x, rsx_seq, rsx_nx, rsx_ret, rsx_brk, rsx_cont, rsx_ite, rsx_thn, gets_fnM, onlyP, Option.map_some, Src.items]
    have k1 := h (some (1 + b)) w4 (fun k e => by cases e; omega) hw4
    have k2 := h (some (1 + c)) w4 (fun k e => by cases e; omega) hw4
    simp only [eO] at k1 k2
    by_cases hr0 : (r : Int) = 0
    · simp only [hr0, mVar, mK, mBin, mUn, mTru, mTest, mAnd, mOr, mNot, mAndV, mOrV, mNotV, mIf, mNil, mCons, mTup, mLst, mLstF, mCall, mChain, mIsi, fIsi, tyD, tyP, mSlice, oNo, oSome, mSeq, srcOf, mRange1, mRange2, sNext, sSeq, sIf, sRet, sRetN, sExpr, sSet, sAsg, sAug, sFor, sRaise, gSet, gMore, gNone, Mp.gTup, mMeth, fAppend, fLen, fInt, truth, ptruth, asB, pp1, pp2, ret1, dIs, isN, allP, frzD, mFrz, List.map_cons, List.map_nil, List.cons_append, List.nil_append, List.length_cons, List.length_nil, List.getElem?_cons_zero, List.getElem?_cons_succ, List.getElem?_nil, List.set_cons_zero, List.set_cons_succ, if_true, ite_true, Nat.reduceAdd, Nat.reduceSub, List.replicate, Bool.false_eq_true, if_false, Bool.not_true, Bool.not_false, mp_ft, mp_tf, isTy, beq_self_eq_true, isi0, isi1, isi2, isi3, isi4, isi5, isi6, isi7, isi8, isi9, isi10, isi11, isi12, isi13, isi14, isi15, isi16, isi17, isi18, isi19, isi20, isi21, isi22, isi23, isi24, isi25, isi26, isi27, isi28, isi29, isi30, isi31, isi32, isi33, isi34, isi35, isi36, isi37, isi38, isi39, isi40, isi41, onlyF, dIx_tup, dIx_lst, dIx_ref, ixAt_0, ixAt_1, ixAt_2, ixAt_3, iEq_int, iNe_int, dAdd, iAdd, iSub, iNeg, iCmp, iLe, iLt, iGe, iGt, dMul, iMulT, iMul, iMod, iDiv, gIx, setIx, decide_true, decide_false, decide_eq_true_eq, Bool.not_eq_true, List.length_map, gets_ok, gets_bind, gets_ite, rsw_ite, rsw_seq, rsw_thn, rsw_nx, rsw_ret, rst_x, rsx_seq, rsx_nx, rsx_ret, rsx_brk, rsx_cont, rsx_ite, rsx_thn, gets_fnM, onlyP, Option.map_some, Src.items, natAdd1]
      exact ⟨_, rfl, k2⟩
    · simp only [hr0, mVar, mK, mBin, mUn, mTru, mTest, mAnd, mOr, mNot, mAndV, mOrV, mNotV, mIf, mNil, mCons, mTup, mLst, mLstF, mCall, mChain, mIsi, fIsi, tyD, tyP, mSlice, oNo, oSome, mSeq, srcOf, mRange1, mRange2, sNext, sSeq, sIf, sRet, sRetN, sExpr, sSet, sAsg, sAug, sFor, sRaise, gSet, gMore, gNone, Mp.gTup, mMeth, fAppend, fLen, fInt, truth, ptruth, asB, pp1, pp2, ret1, dIs, isN, allP, frzD, mFrz, List.map_cons, List.map_nil, List.cons_append, List.nil_append, List.length_cons, List.length_nil, List.getElem?_cons_zero, List.getElem?_cons_succ, List.getElem?_nil, List.set_cons_zero, List.set_cons_succ, if_true, ite_true, Nat.reduceAdd, Nat.reduceSub, List.replicate, Bool.false_eq_true, if_false, Bool.not_true, Bool.not_false, mp_ft, mp_tf, isTy, beq_self_eq_true, isi0, isi1, isi2, isi3, isi4, isi5, isi6, isi7, isi8, isi9, isi10, isi11, isi12, isi13, isi14, isi15, isi16, isi17, isi18, isi19, isi20, isi21, isi22, isi23, isi24, isi25, isi26, isi27, isi28, isi29, isi30, isi31, isi32, isi33, isi34, isi35, isi36, isi37, isi38, isi39, isi40, isi41, onlyF, dIx_tup, dIx_lst, dIx_ref, ixAt_0, ixAt_1, ixAt_2, ixAt_3, iEq_int, iNe_int, dAdd, iAdd, iSub, iNeg, iCmp, iLe, iLt, iGe, iGt, dMul, iMulT, iMul, iMod, iDiv, gIx, setIx, decide_true, decide_false, decide_eq_true_eq, Bool.not_eq_true, List.length_map, gets_ok, gets_bind, gets_ite, rsw_ite, rsw_seq, rsw_thn, rsw_nx, rsw_ret, rst_x, rsx_seq, rsx_nx, rsx_ret, rsx_brk, rsx_cont, rsx_ite, rsx_thn, gets_fnM, onlyP, Option.map_some, Src.items, natAdd1]
      exact ⟨_, rfl, k1⟩

/-! _law_machine -/
theorem sc__law_machine : FnScope ["_law_well_here", "_law_size", "_law_few", "_law_states", "_law_lack", "_law_dull", "_law_rows", "_law_state", "_law_letter"] ["_law_well_here"] (defScope t__law_machine) := ⟨rfl, rfl, rfl, by decide +kernel, rfl, by decide +kernel, by decide +kernel⟩
theorem bn__law_machine : BindN "_law_machine" t__law_machine ["_law_well_here"] := fun _ _ _ _ _ _ us hl => match us, hl with | [_], _ => rfl
noncomputable def b__law_machine : MS := (sSeq (sSet 1 (mBin dIx (mLstF (mCons (mK (.int 1)) (mCons (mK (.int 2)) (mCons (mK (.int 2)) (mCons (mK (.int 3)) (mCons (mBin dAdd (mK (.int 1)) (mCall M__law_draw (mCons (mVar 0) (mCons (mK (.int 8)) mNil)))) mNil)))))) (mCall M__law_draw (mCons (mVar 0) (mCons (mK (.int 5)) mNil))))) (sSeq (sSet 2 (mLstF (mCons (mBin dAdd (mK (.int 1)) (mCall M__law_draw (mCons (mVar 0) (mCons (mK (.int 3)) mNil)))) (mCons (mBin dAdd (mK (.int 1)) (mCall M__law_draw (mCons (mVar 0) (mCons (mK (.int 7)) mNil)))) (mCons (mBin (pp2 iSub) (mK (.int 30)) (mCall M__law_draw (mCons (mVar 0) (mCons (mK (.int 3)) mNil)))) mNil))))) (sSeq (sSet 3 (mBin dIx (mVar 2) (mBin dIx (mLstF (mCons (mK (.int 0)) (mCons (mK (.int 0)) (mCons (mK (.int 0)) (mCons (mK (.int 1)) (mCons (mK (.int 1)) (mCons (mK (.int 1)) (mCons (mK (.int 1)) (mCons (mK (.int 2)) mNil))))))))) (mCall M__law_draw (mCons (mVar 0) (mCons (mK (.int 8)) mNil)))))) (sSeq (sSet 4 (mCall M__law_draw (mCons (mVar 0) (mCons (mK (.int 5)) mNil)))) (sSeq (sSet 5 (mBin dAdd (mK (.int 1)) (mCall M__law_draw (mCons (mVar 0) (mCons (mK (.int 5)) mNil))))) (sSeq (sSet 6 (mLst mNil)) (sSeq (sFor (mRange1 (mVar 3)) (gSet 7) (sExpr (mMeth "list" fAppend (mVar 6) (mCons (mTup (mCons (mCall M__law_end (mCons (mVar 0) (mCons (mVar 5) mNil))) (mCons (mCall fTuple (mCons (mLc (mRange1 (mVar 1)) [8] (gSet 8) mYes (mCall M__law_step (mCons (mVar 0) (mCons (mVar 3) (mCons (mVar 4) mNil)))) kFrz) mNil)) mNil))) mNil)))) (sRet (mTup (mCons (mVar 1) (mCons (mCall fTuple (mCons (mVar 6) mNil)) mNil)))))))))))
theorem raw__law_machine (N : Nm K mg) : DefOk P w K mg base "_law_machine" 6 1 (fnM 1 9 b__law_machine) := def_mk N.d__law_machine sc__law_machine bn__law_machine rfl rfl fun f cdv A outer s H E hr nd tk hp => (ss_cons (s_set (i := 1) nd (e_ix (e_lstF (a_cons e_int (a_cons e_int (a_cons e_int (a_cons e_int (a_cons (e_bin o_add e_int (e_callS (ok__law_draw N) hr (by decide) tk (a_cons (e_var (i := 0)) (a_cons e_int a_nil)) (argN_cons (argN_cons argN_nil)))) a_nil)))))) (e_callS (ok__law_draw N) hr (by decide) tk (a_cons (e_var (i := 0)) (a_cons e_int a_nil)) (argN_cons (argN_cons argN_nil))))) (ss_cons (s_set (i := 2) nd (e_lstF (a_cons (e_bin o_add e_int (e_callS (ok__law_draw N) hr (by decide) tk (a_cons (e_var (i := 0)) (a_cons e_int a_nil)) (argN_cons (argN_cons argN_nil)))) (a_cons (e_bin o_add e_int (e_callS (ok__law_draw N) hr (by decide) tk (a_cons (e_var (i := 0)) (a_cons e_int a_nil)) (argN_cons (argN_cons argN_nil)))) (a_cons (e_bin o_sub e_int (e_callS (ok__law_draw N) hr (by decide) tk (a_cons (e_var (i := 0)) (a_cons e_int a_nil)) (argN_cons (argN_cons argN_nil)))) a_nil))))) (ss_cons (s_set (i := 3) nd (e_ix (e_var (i := 2)) (e_ix (e_lstF (a_cons e_int (a_cons e_int (a_cons e_int (a_cons e_int (a_cons e_int (a_cons e_int (a_cons e_int (a_cons e_int a_nil))))))))) (e_callS (ok__law_draw N) hr (by decide) tk (a_cons (e_var (i := 0)) (a_cons e_int a_nil)) (argN_cons (argN_cons argN_nil)))))) (ss_cons (s_set (i := 4) nd (e_callS (ok__law_draw N) hr (by decide) tk (a_cons (e_var (i := 0)) (a_cons e_int a_nil)) (argN_cons (argN_cons argN_nil)))) (ss_cons (s_set (i := 5) nd (e_bin o_add e_int (e_callS (ok__law_draw N) hr (by decide) tk (a_cons (e_var (i := 0)) (a_cons e_int a_nil)) (argN_cons (argN_cons argN_nil))))) (ss_cons (s_set (i := 6) nd (e_lst a_nil)) (ss_cons (s_for hp rfl (i_range1 rfl N.f_range (e_var (i := 3))) (g_name (i := 7) nd) (ss_one (s_expr (e_append (e_var (i := 6)) (a_cons (e_tup (a_cons (e_callS (ok__law_end N) hr (by decide) tk (a_cons (e_var (i := 0)) (a_cons (e_var (i := 5)) a_nil)) (argN_cons (argN_cons argN_nil))) (a_cons (e_ty b_tuple rfl N.f_tuple bt_tuple (a_cons (e_lcF (own := [("_law_letter", 8)]) rfl nd (i_range1 rfl N.f_range (e_var (i := 1))) (blkOk_by (N := ["_law_well_here", "_law_size", "_law_few", "_law_states", "_law_lack", "_law_dull", "_law_rows", "_law_state", "_law_letter"]) (sc := defScope t__law_machine) (own := [("_law_letter", 8)]) (by decide +kernel)) (tg_name (i := 8) (by decide)) (fun _ _ _ _ _ => pg_name (i := 8) nd rfl (by first | exact Or.inl rfl | exact Or.inr rfl)) (fun _ _ _ _ _ => c_no) (fun _ _ _ _ _ => (e_callS (ok__law_step N) hr (by decide) takes0 (a_cons (e_var (i := 0)) (a_cons (e_var (i := 3)) (a_cons (e_var (i := 4)) a_nil))) (argN_cons (argN_cons (argN_cons argN_nil)))))) a_nil)) a_nil))) a_nil))))) (ss_one (s_ret (e_tup (a_cons (e_var (i := 1)) (a_cons (e_ty b_tuple rfl N.f_tuple bt_tuple (a_cons (e_var (i := 6)) a_nil)) a_nil))))))))))))
noncomputable def M__law_machine : List D → S → R D := pureRun (fnM 1 9 b__law_machine)
theorem ok__law_machine (N : Nm K mg) : DefOk P w K mg base "_law_machine" 6 1 M__law_machine := (raw__law_machine N).alone
theorem mach_w {g w : GH} {Q : D → S → Prop} (hw : WA w) (h : ∀ (m : Mac) (w' : GH), m.Ok → WA w' → Q (.p (eM m)) ⟨g, w'⟩) : Gets (M__law_machine [.well 0] ⟨g, w⟩) Q := by
  refine pure_gets rfl ?_
  have z0 : sizeOk 0 = true := by decide
  have z3 : sizeOk 3 = true := by decide
  have z5 : sizeOk 5 = true := by decide
  have z8 : sizeOk 8 = true := by decide
  have z2 : sizeOk 2 = true := by decide
  simp only [b__law_machine, mVar, mK, mBin, mUn, mTru, mTest, mAnd, mOr, mNot, mAndV, mOrV, mNotV, mIf, mNil, mCons, mTup, mLst, mLstF, mCall, mChain, mIsi, fIsi, tyD, tyP, mSlice, oNo, oSome, mSeq, srcOf, mRange1, mRange2, sNext, sSeq, sIf, sRet, sRetN, sExpr, sSet, sAsg, sAug, sFor, sRaise, gSet, gMore, gNone, Mp.gTup, mMeth, fAppend, fLen, fInt, truth, ptruth, asB, pp1, pp2, ret1, dIs, isN, allP, frzD, mFrz, List.map_cons, List.map_nil, List.cons_append, List.nil_append, List.length_cons, List.length_nil, List.getElem?_cons_zero, List.getElem?_cons_succ, List.getElem?_nil, List.set_cons_zero, List.set_cons_succ, if_true, ite_true, Nat.reduceAdd, Nat.reduceSub, List.replicate, Bool.false_eq_true, if_false, Bool.not_true, Bool.not_false, mp_ft, mp_tf, isTy, beq_self_eq_true, isi0, isi1, isi2, isi3, isi4, isi5, isi6, isi7, isi8, isi9, isi10, isi11, isi12, isi13, isi14, isi15, isi16, isi17, isi18, isi19, isi20, isi21, isi22, isi23, isi24, isi25, isi26, isi27, isi28, isi29, isi30, isi31, isi32, isi33, isi34, isi35, isi36, isi37, isi38, isi39, isi40, isi41, onlyF, dIx_tup, dIx_lst, dIx_ref, ixAt_0, ixAt_1, ixAt_2, ixAt_3, iEq_int, iNe_int, dAdd, iAdd, iSub, iNeg, iCmp, iLe, iLt, iGe, iGt, dMul, iMulT, iMul, iMod, iDiv, gIx, setIx, decide_true, decide_false, decide_eq_true_eq, Bool.not_eq_true, List.length_map, gets_ok, gets_bind, gets_ite, rsw_ite, rsw_seq, rsw_thn, rsw_nx, rsw_ret, rst_x, rsx_seq, rsx_nx, rsx_ret, rsx_brk, rsx_cont, rsx_ite, rsx_thn, gets_fnM, onlyP, Option.map_some, Src.items]
  refine draw_w hw (by decide) (by decide) fun a w1 ha hw1 => ?_
  simp only [mVar, mK, mBin, mUn, mTru, mTest, mAnd, mOr, mNot, mAndV, mOrV, mNotV, mIf, mNil, mCons, mTup, mLst, mLstF, mCall, mChain, mIsi, fIsi, tyD, tyP, mSlice, oNo, oSome, mSeq, srcOf, mRange1, mRange2, sNext, sSeq, sIf, sRet, sRetN, sExpr, sSet, sAsg, sAug, sFor, sRaise, gSet, gMore, gNone, Mp.gTup, mMeth, fAppend, fLen, fInt, truth, ptruth, asB, pp1, pp2, ret1, dIs, isN, allP, frzD, mFrz, List.map_cons, List.map_nil, List.cons_append, List.nil_append, List.length_cons, List.length_nil, List.getElem?_cons_zero, List.getElem?_cons_succ, List.getElem?_nil, List.set_cons_zero, List.set_cons_succ, if_true, ite_true, Nat.reduceAdd, Nat.reduceSub, List.replicate, Bool.false_eq_true, if_false, Bool.not_true, Bool.not_false, mp_ft, mp_tf, isTy, beq_self_eq_true, isi0, isi1, isi2, isi3, isi4, isi5, isi6, isi7, isi8, isi9, isi10, isi11, isi12, isi13, isi14, isi15, isi16, isi17, isi18, isi19, isi20, isi21, isi22, isi23, isi24, isi25, isi26, isi27, isi28, isi29, isi30, isi31, isi32, isi33, isi34, isi35, isi36, isi37, isi38, isi39, isi40, isi41, onlyF, dIx_tup, dIx_lst, dIx_ref, ixAt_0, ixAt_1, ixAt_2, ixAt_3, iEq_int, iNe_int, dAdd, iAdd, iSub, iNeg, iCmp, iLe, iLt, iGe, iGt, dMul, iMulT, iMul, iMod, iDiv, gIx, setIx, decide_true, decide_false, decide_eq_true_eq, Bool.not_eq_true, List.length_map, gets_ok, gets_bind, gets_ite, rsw_ite, rsw_seq, rsw_thn, rsw_nx, rsw_ret, rst_x, rsx_seq, rsx_nx, rsx_ret, rsx_brk, rsx_cont, rsx_ite, rsx_thn, gets_fnM, onlyP, Option.map_some, Src.items, z5]
  refine draw_w hw1 (by decide) (by decide) fun b w2 hb hw2 => ?_
  simp only [mVar, mK, mBin, mUn, mTru, mTest, mAnd, mOr, mNot, mAndV, mOrV, mNotV, mIf, mNil, mCons, mTup, mLst, mLstF, mCall, mChain, mIsi, fIsi, tyD, tyP, mSlice, oNo, oSome, mSeq, srcOf, mRange1, mRange2, sNext, sSeq, sIf, sRet, sRetN, sExpr, sSet, sAsg, sAug, sFor, sRaise, gSet, gMore, gNone, Mp.gTup, mMeth, fAppend, fLen, fInt, truth, ptruth, asB, pp1, pp2, ret1, dIs, isN, allP, frzD, mFrz, List.map_cons, List.map_nil, List.cons_append, List.nil_append, List.length_cons, List.length_nil, List.getElem?_cons_zero, List.getElem?_cons_succ, List.getElem?_nil, List.set_cons_zero, List.set_cons_succ, if_true, ite_true, Nat.reduceAdd, Nat.reduceSub, List.replicate, Bool.false_eq_true, if_false, Bool.not_true, Bool.not_false, mp_ft, mp_tf, isTy, beq_self_eq_true, isi0, isi1, isi2, isi3, isi4, isi5, isi6, isi7, isi8, isi9, isi10, isi11, isi12, isi13, isi14, isi15, isi16, isi17, isi18, isi19, isi20, isi21, isi22, isi23, isi24, isi25, isi26, isi27, isi28, isi29, isi30, isi31, isi32, isi33, isi34, isi35, isi36, isi37, isi38, isi39, isi40, isi41, onlyF, dIx_tup, dIx_lst, dIx_ref, ixAt_0, ixAt_1, ixAt_2, ixAt_3, iEq_int, iNe_int, dAdd, iAdd, iSub, iNeg, iCmp, iLe, iLt, iGe, iGt, dMul, iMulT, iMul, iMod, iDiv, gIx, setIx, decide_true, decide_false, decide_eq_true_eq, Bool.not_eq_true, List.length_map, gets_ok, gets_bind, gets_ite, rsw_ite, rsw_seq, rsw_thn, rsw_nx, rsw_ret, rst_x, rsx_seq, rsx_nx, rsx_ret, rsx_brk, rsx_cont, rsx_ite, rsx_thn, gets_fnM, onlyP, Option.map_some, Src.items]
  have hn : ∃ n : Nat, 1 ≤ n ∧ n ≤ 8 ∧ ixAt [PyData.int 1, .int 2, .int 2, .int 3, .int (1 + a)] (b : Int) = some (.int n) := by
    obtain ⟨x, hx, e⟩ := ixAt_mem (xs := [PyData.int 1, .int 2, .int 2, .int 3, .int (1 + a)]) (i := (b : Int)) (by omega) (by simp; omega)
    simp at hx
    rcases hx with rfl | rfl | rfl | rfl
    · exact ⟨1, by omega, by omega, e⟩
    · exact ⟨2, by omega, by omega, e⟩
    · exact ⟨3, by omega, by omega, e⟩
    · exact ⟨1 + a, by omega, by omega, by rw [e]; simp⟩
  obtain ⟨n, hn1, hn8, e⟩ := hn
  simp only [mVar, mK, mBin, mUn, mTru, mTest, mAnd, mOr, mNot, mAndV, mOrV, mNotV, mIf, mNil, mCons, mTup, mLst, mLstF, mCall, mChain, mIsi, fIsi, tyD, tyP, mSlice, oNo, oSome, mSeq, srcOf, mRange1, mRange2, sNext, sSeq, sIf, sRet, sRetN, sExpr, sSet, sAsg, sAug, sFor, sRaise, gSet, gMore, gNone, Mp.gTup, mMeth, fAppend, fLen, fInt, truth, ptruth, asB, pp1, pp2, ret1, dIs, isN, allP, frzD, mFrz, List.map_cons, List.map_nil, List.cons_append, List.nil_append, List.length_cons, List.length_nil, List.getElem?_cons_zero, List.getElem?_cons_succ, List.getElem?_nil, List.set_cons_zero, List.set_cons_succ, if_true, ite_true, Nat.reduceAdd, Nat.reduceSub, List.replicate, Bool.false_eq_true, if_false, Bool.not_true, Bool.not_false, mp_ft, mp_tf, isTy, beq_self_eq_true, isi0, isi1, isi2, isi3, isi4, isi5, isi6, isi7, isi8, isi9, isi10, isi11, isi12, isi13, isi14, isi15, isi16, isi17, isi18, isi19, isi20, isi21, isi22, isi23, isi24, isi25, isi26, isi27, isi28, isi29, isi30, isi31, isi32, isi33, isi34, isi35, isi36, isi37, isi38, isi39, isi40, isi41, onlyF, dIx_tup, dIx_lst, dIx_ref, ixAt_0, ixAt_1, ixAt_2, ixAt_3, iEq_int, iNe_int, dAdd, iAdd, iSub, iNeg, iCmp, iLe, iLt, iGe, iGt, dMul, iMulT, iMul, iMod, iDiv, gIx, setIx, decide_true, decide_false, decide_eq_true_eq, Bool.not_eq_true, List.length_map, gets_ok, gets_bind, gets_ite, rsw_ite, rsw_seq, rsw_thn, rsw_nx, rsw_ret, rst_x, rsx_seq, rsx_nx, rsx_ret, rsx_brk, rsx_cont, rsx_ite, rsx_thn, gets_fnM, onlyP, Option.map_some, Src.items, e]
  refine draw_w hw2 (by decide) (by decide) fun c w3 hc hw3 => ?_
  simp only [mVar, mK, mBin, mUn, mTru, mTest, mAnd, mOr, mNot, mAndV, mOrV, mNotV, mIf, mNil, mCons, mTup, mLst, mLstF, mCall, mChain, mIsi, fIsi, tyD, tyP, mSlice, oNo, oSome, mSeq, srcOf, mRange1, mRange2, sNext, sSeq, sIf, sRet, sRetN, sExpr, sSet, sAsg, sAug, sFor, sRaise, gSet, gMore, gNone, Mp.gTup, mMeth, fAppend, fLen, fInt, truth, ptruth, asB, pp1, pp2, ret1, dIs, isN, allP, frzD, mFrz, List.map_cons, List.map_nil, List.cons_append, List.nil_append, List.length_cons, List.length_nil, List.getElem?_cons_zero, List.getElem?_cons_succ, List.getElem?_nil, List.set_cons_zero, List.set_cons_succ, if_true, ite_true, Nat.reduceAdd, Nat.reduceSub, List.replicate, Bool.false_eq_true, if_false, Bool.not_true, Bool.not_false, mp_ft, mp_tf, isTy, beq_self_eq_true, isi0, isi1, isi2, isi3, isi4, isi5, isi6, isi7, isi8, isi9, isi10, isi11, isi12, isi13, isi14, isi15, isi16, isi17, isi18, isi19, isi20, isi21, isi22, isi23, isi24, isi25, isi26, isi27, isi28, isi29, isi30, isi31, isi32, isi33, isi34, isi35, isi36, isi37, isi38, isi39, isi40, isi41, onlyF, dIx_tup, dIx_lst, dIx_ref, ixAt_0, ixAt_1, ixAt_2, ixAt_3, iEq_int, iNe_int, dAdd, iAdd, iSub, iNeg, iCmp, iLe, iLt, iGe, iGt, dMul, iMulT, iMul, iMod, iDiv, gIx, setIx, decide_true, decide_false, decide_eq_true_eq, Bool.not_eq_true, List.length_map, gets_ok, gets_bind, gets_ite, rsw_ite, rsw_seq, rsw_thn, rsw_nx, rsw_ret, rst_x, rsx_seq, rsx_nx, rsx_ret, rsx_brk, rsx_cont, rsx_ite, rsx_thn, gets_fnM, onlyP, Option.map_some, Src.items]
  refine draw_w hw3 (by decide) (by decide) fun d w4 hd hw4 => ?_
  simp only [mVar, mK, mBin, mUn, mTru, mTest, mAnd, mOr, mNot, mAndV, mOrV, mNotV, mIf, mNil, mCons, mTup, mLst, mLstF, mCall, mChain, mIsi, fIsi, tyD, tyP, mSlice, oNo, oSome, mSeq, srcOf, mRange1, mRange2, sNext, sSeq, sIf, sRet, sRetN, sExpr, sSet, sAsg, sAug, sFor, sRaise, gSet, gMore, gNone, Mp.gTup, mMeth, fAppend, fLen, fInt, truth, ptruth, asB, pp1, pp2, ret1, dIs, isN, allP, frzD, mFrz, List.map_cons, List.map_nil, List.cons_append, List.nil_append, List.length_cons, List.length_nil, List.getElem?_cons_zero, List.getElem?_cons_succ, List.getElem?_nil, List.set_cons_zero, List.set_cons_succ, if_true, ite_true, Nat.reduceAdd, Nat.reduceSub, List.replicate, Bool.false_eq_true, if_false, Bool.not_true, Bool.not_false, mp_ft, mp_tf, isTy, beq_self_eq_true, isi0, isi1, isi2, isi3, isi4, isi5, isi6, isi7, isi8, isi9, isi10, isi11, isi12, isi13, isi14, isi15, isi16, isi17, isi18, isi19, isi20, isi21, isi22, isi23, isi24, isi25, isi26, isi27, isi28, isi29, isi30, isi31, isi32, isi33, isi34, isi35, isi36, isi37, isi38, isi39, isi40, isi41, onlyF, dIx_tup, dIx_lst, dIx_ref, ixAt_0, ixAt_1, ixAt_2, ixAt_3, iEq_int, iNe_int, dAdd, iAdd, iSub, iNeg, iCmp, iLe, iLt, iGe, iGt, dMul, iMulT, iMul, iMod, iDiv, gIx, setIx, decide_true, decide_false, decide_eq_true_eq, Bool.not_eq_true, List.length_map, gets_ok, gets_bind, gets_ite, rsw_ite, rsw_seq, rsw_thn, rsw_nx, rsw_ret, rst_x, rsx_seq, rsx_nx, rsx_ret, rsx_brk, rsx_cont, rsx_ite, rsx_thn, gets_fnM, onlyP, Option.map_some, Src.items]
  refine draw_w hw4 (by decide) (by decide) fun f w5 hf hw5 => ?_
  simp only [mVar, mK, mBin, mUn, mTru, mTest, mAnd, mOr, mNot, mAndV, mOrV, mNotV, mIf, mNil, mCons, mTup, mLst, mLstF, mCall, mChain, mIsi, fIsi, tyD, tyP, mSlice, oNo, oSome, mSeq, srcOf, mRange1, mRange2, sNext, sSeq, sIf, sRet, sRetN, sExpr, sSet, sAsg, sAug, sFor, sRaise, gSet, gMore, gNone, Mp.gTup, mMeth, fAppend, fLen, fInt, truth, ptruth, asB, pp1, pp2, ret1, dIs, isN, allP, frzD, mFrz, List.map_cons, List.map_nil, List.cons_append, List.nil_append, List.length_cons, List.length_nil, List.getElem?_cons_zero, List.getElem?_cons_succ, List.getElem?_nil, List.set_cons_zero, List.set_cons_succ, if_true, ite_true, Nat.reduceAdd, Nat.reduceSub, List.replicate, Bool.false_eq_true, if_false, Bool.not_true, Bool.not_false, mp_ft, mp_tf, isTy, beq_self_eq_true, isi0, isi1, isi2, isi3, isi4, isi5, isi6, isi7, isi8, isi9, isi10, isi11, isi12, isi13, isi14, isi15, isi16, isi17, isi18, isi19, isi20, isi21, isi22, isi23, isi24, isi25, isi26, isi27, isi28, isi29, isi30, isi31, isi32, isi33, isi34, isi35, isi36, isi37, isi38, isi39, isi40, isi41, onlyF, dIx_tup, dIx_lst, dIx_ref, ixAt_0, ixAt_1, ixAt_2, ixAt_3, iEq_int, iNe_int, dAdd, iAdd, iSub, iNeg, iCmp, iLe, iLt, iGe, iGt, dMul, iMulT, iMul, iMod, iDiv, gIx, setIx, decide_true, decide_false, decide_eq_true_eq, Bool.not_eq_true, List.length_map, gets_ok, gets_bind, gets_ite, rsw_ite, rsw_seq, rsw_thn, rsw_nx, rsw_ret, rst_x, rsx_seq, rsx_nx, rsx_ret, rsx_brk, rsx_cont, rsx_ite, rsx_thn, gets_fnM, onlyP, Option.map_some, Src.items, z3, z8]
  refine draw_w hw5 (by decide) (by decide) fun r w6 hr hw6 => ?_
  simp only [mVar, mK, mBin, mUn, mTru, mTest, mAnd, mOr, mNot, mAndV, mOrV, mNotV, mIf, mNil, mCons, mTup, mLst, mLstF, mCall, mChain, mIsi, fIsi, tyD, tyP, mSlice, oNo, oSome, mSeq, srcOf, mRange1, mRange2, sNext, sSeq, sIf, sRet, sRetN, sExpr, sSet, sAsg, sAug, sFor, sRaise, gSet, gMore, gNone, Mp.gTup, mMeth, fAppend, fLen, fInt, truth, ptruth, asB, pp1, pp2, ret1, dIs, isN, allP, frzD, mFrz, List.map_cons, List.map_nil, List.cons_append, List.nil_append, List.length_cons, List.length_nil, List.getElem?_cons_zero, List.getElem?_cons_succ, List.getElem?_nil, List.set_cons_zero, List.set_cons_succ, if_true, ite_true, Nat.reduceAdd, Nat.reduceSub, List.replicate, Bool.false_eq_true, if_false, Bool.not_true, Bool.not_false, mp_ft, mp_tf, isTy, beq_self_eq_true, isi0, isi1, isi2, isi3, isi4, isi5, isi6, isi7, isi8, isi9, isi10, isi11, isi12, isi13, isi14, isi15, isi16, isi17, isi18, isi19, isi20, isi21, isi22, isi23, isi24, isi25, isi26, isi27, isi28, isi29, isi30, isi31, isi32, isi33, isi34, isi35, isi36, isi37, isi38, isi39, isi40, isi41, onlyF, dIx_tup, dIx_lst, dIx_ref, ixAt_0, ixAt_1, ixAt_2, ixAt_3, iEq_int, iNe_int, dAdd, iAdd, iSub, iNeg, iCmp, iLe, iLt, iGe, iGt, dMul, iMulT, iMul, iMod, iDiv, gIx, setIx, decide_true, decide_false, decide_eq_true_eq, Bool.not_eq_true, List.length_map, gets_ok, gets_bind, gets_ite, rsw_ite, rsw_seq, rsw_thn, rsw_nx, rsw_ret, rst_x, rsx_seq, rsx_nx, rsx_ret, rsx_brk, rsx_cont, rsx_ite, rsx_thn, gets_fnM, onlyP, Option.map_some, Src.items]
  have hq : ∃ (q : Nat) (i : Int), 1 ≤ q ∧ q ≤ 30 ∧ ixAt [PyData.int 0, .int 0, .int 0, .int 1, .int 1, .int 1, .int 1, .int 2] (r : Int) = some (.int i) ∧ ixAt [PyData.int (1 + c), .int (1 + d), .int (30 - f)] i = some (.int q) := by
    obtain ⟨x, hx, e⟩ := ixAt_mem (xs := [PyData.int 0, .int 0, .int 0, .int 1, .int 1, .int 1, .int 1, .int 2]) (i := (r : Int)) (by omega) (by simp; omega)
    simp at hx
    rcases hx with rfl | rfl | rfl
    · exact ⟨1 + c, 0, by omega, by omega, e, by simp [ixAt_0]⟩
    · exact ⟨1 + d, 1, by omega, by omega, e, by simp [ixAt_1]⟩
    · exact ⟨30 - f, 2, by omega, by omega, e, by simp [ixAt_2]; omega⟩
  obtain ⟨q, i, hq1, hq30, ex, e⟩ := hq
  simp only [mVar, mK, mBin, mUn, mTru, mTest, mAnd, mOr, mNot, mAndV, mOrV, mNotV, mIf, mNil, mCons, mTup, mLst, mLstF, mCall, mChain, mIsi, fIsi, tyD, tyP, mSlice, oNo, oSome, mSeq, srcOf, mRange1, mRange2, sNext, sSeq, sIf, sRet, sRetN, sExpr, sSet, sAsg, sAug, sFor, sRaise, gSet, gMore, gNone, Mp.gTup, mMeth, fAppend, fLen, fInt, truth, ptruth, asB, pp1, pp2, ret1, dIs, isN, allP, frzD, mFrz, List.map_cons, List.map_nil, List.cons_append, List.nil_append, List.length_cons, List.length_nil, List.getElem?_cons_zero, List.getElem?_cons_succ, List.getElem?_nil, List.set_cons_zero, List.set_cons_succ, if_true, ite_true, Nat.reduceAdd, Nat.reduceSub, List.replicate, Bool.false_eq_true, if_false, Bool.not_true, Bool.not_false, mp_ft, mp_tf, isTy, beq_self_eq_true, isi0, isi1, isi2, isi3, isi4, isi5, isi6, isi7, isi8, isi9, isi10, isi11, isi12, isi13, isi14, isi15, isi16, isi17, isi18, isi19, isi20, isi21, isi22, isi23, isi24, isi25, isi26, isi27, isi28, isi29, isi30, isi31, isi32, isi33, isi34, isi35, isi36, isi37, isi38, isi39, isi40, isi41, onlyF, dIx_tup, dIx_lst, dIx_ref, ixAt_0, ixAt_1, ixAt_2, ixAt_3, iEq_int, iNe_int, dAdd, iAdd, iSub, iNeg, iCmp, iLe, iLt, iGe, iGt, dMul, iMulT, iMul, iMod, iDiv, gIx, setIx, decide_true, decide_false, decide_eq_true_eq, Bool.not_eq_true, List.length_map, gets_ok, gets_bind, gets_ite, rsw_ite, rsw_seq, rsw_thn, rsw_nx, rsw_ret, rst_x, rsx_seq, rsx_nx, rsx_ret, rsx_brk, rsx_cont, rsx_ite, rsx_thn, gets_fnM, onlyP, Option.map_some, Src.items, ex, e]
  refine draw_w hw6 (by decide) (by decide) fun u w7 hu hw7 => ?_
  refine draw_w hw7 (by decide) (by decide) fun v w8 hv hw8 => ?_
  have ro : rngOk 0 (q : Int) := rngOk_of (by omega) (by omega) (by omega) (by omega)
  simp only [mVar, mK, mBin, mUn, mTru, mTest, mAnd, mOr, mNot, mAndV, mOrV, mNotV, mIf, mNil, mCons, mTup, mLst, mLstF, mCall, mChain, mIsi, fIsi, tyD, tyP, mSlice, oNo, oSome, mSeq, srcOf, mRange1, mRange2, sNext, sSeq, sIf, sRet, sRetN, sExpr, sSet, sAsg, sAug, sFor, sRaise, gSet, gMore, gNone, Mp.gTup, mMeth, fAppend, fLen, fInt, truth, ptruth, asB, pp1, pp2, ret1, dIs, isN, allP, frzD, mFrz, List.map_cons, List.map_nil, List.cons_append, List.nil_append, List.length_cons, List.length_nil, List.getElem?_cons_zero, List.getElem?_cons_succ, List.getElem?_nil, List.set_cons_zero, List.set_cons_succ, if_true, ite_true, Nat.reduceAdd, Nat.reduceSub, List.replicate, Bool.false_eq_true, if_false, Bool.not_true, Bool.not_false, mp_ft, mp_tf, isTy, beq_self_eq_true, isi0, isi1, isi2, isi3, isi4, isi5, isi6, isi7, isi8, isi9, isi10, isi11, isi12, isi13, isi14, isi15, isi16, isi17, isi18, isi19, isi20, isi21, isi22, isi23, isi24, isi25, isi26, isi27, isi28, isi29, isi30, isi31, isi32, isi33, isi34, isi35, isi36, isi37, isi38, isi39, isi40, isi41, onlyF, dIx_tup, dIx_lst, dIx_ref, ixAt_0, ixAt_1, ixAt_2, ixAt_3, iEq_int, iNe_int, dAdd, iAdd, iSub, iNeg, iCmp, iLe, iLt, iGe, iGt, dMul, iMulT, iMul, iMod, iDiv, gIx, setIx, decide_true, decide_false, decide_eq_true_eq, Bool.not_eq_true, List.length_map, gets_ok, gets_bind, gets_ite, rsw_ite, rsw_seq, rsw_thn, rsw_nx, rsw_ret, rst_x, rsx_seq, rsx_nx, rsx_ret, rsx_brk, rsx_cont, rsx_ite, rsx_thn, gets_fnM, onlyP, Option.map_some, Src.items, newLst, z0, ro]
  refine for_gets (J := fun xs e s' => ∃ (rs : List MRow) (w' : GH) (e7 : Option D), xs.length + rs.length = q ∧ (∀ r ∈ rs, r.Ok n q) ∧ WA w' ∧ s' = ⟨[some (.lst (rs.map fun r => D.p (eR r)))], w'⟩ ∧ e = [some (.well 0), some (.p (.int n)), some (.p (.list [PyData.int (1 + c), .int (1 + d), .int (30 - f)])), some (.p (.int q)), some (.p (.int u)), some (.p (.int (1 + v))), some (.ref 0), e7, none]) (fun _ _ _ _ => trivial) ?_ ?_ _ _ _ ?_
  · rintro x xs e s' ⟨rs, w', e7, hl, hrs, hw', rfl, rfl⟩
    simp only [List.length_cons] at hl
    have ro' : rngOk 0 (n : Int) := rngOk_of (by omega) (by omega) (by omega) (by omega)
    have zn : Mp.sizeOk (rngItems 0 (n : Int).toNat).length = true := by rw [rng_len]; exact sizeOk_of (by omega)
    have zr : Mp.sizeOk (rs.length + 1) = true := sizeOk_of (by omega)
    simp only [mVar, mK, mBin, mUn, mTru, mTest, mAnd, mOr, mNot, mAndV, mOrV, mNotV, mIf, mNil, mCons, mTup, mLst, mLstF, mCall, mChain, mIsi, fIsi, tyD, tyP, mSlice, oNo, oSome, mSeq, srcOf, mRange1, mRange2, sNext, sSeq, sIf, sRet, sRetN, sExpr, sSet, sAsg, sAug, sFor, sRaise, gSet, gMore, gNone, Mp.gTup, mMeth, fAppend, fLen, fInt, truth, ptruth, asB, pp1, pp2, ret1, dIs, isN, allP, frzD, mFrz, List.map_cons, List.map_nil, List.cons_append, List.nil_append, List.length_cons, List.length_nil, List.getElem?_cons_zero, List.getElem?_cons_succ, List.getElem?_nil, List.set_cons_zero, List.set_cons_succ, if_true, ite_true, Nat.reduceAdd, Nat.reduceSub, List.replicate, Bool.false_eq_true, if_false, Bool.not_true, Bool.not_false, mp_ft, mp_tf, isTy, beq_self_eq_true, isi0, isi1, isi2, isi3, isi4, isi5, isi6, isi7, isi8, isi9, isi10, isi11, isi12, isi13, isi14, isi15, isi16, isi17, isi18, isi19, isi20, isi21, isi22, isi23, isi24, isi25, isi26, isi27, isi28, isi29, isi30, isi31, isi32, isi33, isi34, isi35, isi36, isi37, isi38, isi39, isi40, isi41, onlyF, dIx_tup, dIx_lst, dIx_ref, ixAt_0, ixAt_1, ixAt_2, ixAt_3, iEq_int, iNe_int, dAdd, iAdd, iSub, iNeg, iCmp, iLe, iLt, iGe, iGt, dMul, iMulT, iMul, iMod, iDiv, gIx, setIx, decide_true, decide_false, decide_eq_true_eq, Bool.not_eq_true, List.length_map, gets_ok, gets_bind, gets_ite, rsw_ite, rsw_seq, rsw_thn, rsw_nx, rsw_ret, rst_x, rsx_seq, rsx_nx, rsx_ret, rsx_brk, rsx_cont, rsx_ite, rsx_thn, gets_fnM, onlyP, Option.map_some, Src.items, isTy]
    refine end_w hw' fun o w9 ho hw9 => ?_
    simp only [mVar, mK, mBin, mUn, mTru, mTest, mAnd, mOr, mNot, mAndV, mOrV, mNotV, mIf, mNil, mCons, mTup, mLst, mLstF, mCall, mChain, mIsi, fIsi, tyD, tyP, mSlice, oNo, oSome, mSeq, srcOf, mRange1, mRange2, sNext, sSeq, sIf, sRet, sRetN, sExpr, sSet, sAsg, sAug, sFor, sRaise, gSet, gMore, gNone, Mp.gTup, mMeth, fAppend, fLen, fInt, truth, ptruth, asB, pp1, pp2, ret1, dIs, isN, allP, frzD, mFrz, List.map_cons, List.map_nil, List.cons_append, List.nil_append, List.length_cons, List.length_nil, List.getElem?_cons_zero, List.getElem?_cons_succ, List.getElem?_nil, List.set_cons_zero, List.set_cons_succ, if_true, ite_true, Nat.reduceAdd, Nat.reduceSub, List.replicate, Bool.false_eq_true, if_false, Bool.not_true, Bool.not_false, mp_ft, mp_tf, isTy, beq_self_eq_true, isi0, isi1, isi2, isi3, isi4, isi5, isi6, isi7, isi8, isi9, isi10, isi11, isi12, isi13, isi14, isi15, isi16, isi17, isi18, isi19, isi20, isi21, isi22, isi23, isi24, isi25, isi26, isi27, isi28, isi29, isi30, isi31, isi32, isi33, isi34, isi35, isi36, isi37, isi38, isi39, isi40, isi41, onlyF, dIx_tup, dIx_lst, dIx_ref, ixAt_0, ixAt_1, ixAt_2, ixAt_3, iEq_int, iNe_int, dAdd, iAdd, iSub, iNeg, iCmp, iLe, iLt, iGe, iGt, dMul, iMulT, iMul, iMod, iDiv, gIx, setIx, decide_true, decide_false, decide_eq_true_eq, Bool.not_eq_true, List.length_map, gets_ok, gets_bind, gets_ite, rsw_ite, rsw_seq, rsw_thn, rsw_nx, rsw_ret, rst_x, rsx_seq, rsx_nx, rsx_ret, rsx_brk, rsx_cont, rsx_ite, rsx_thn, gets_fnM, onlyP, Option.map_some, Src.items, mLc, ro', zn, wipeE]
    refine lc_typed (I := fun s => s.g = [some (.lst (rs.map fun r => D.p (eR r)))] ∧ WA s.w) (P := MSt.Ok q) (f := eS) (fun _ _ => trivial) ?_ ⟨rfl, hw9⟩ ?_
    · rintro x hx ⟨g', w'⟩ ⟨rfl, hw''⟩
      simp only [mVar, mK, mBin, mUn, mTru, mTest, mAnd, mOr, mNot, mAndV, mOrV, mNotV, mIf, mNil, mCons, mTup, mLst, mLstF, mCall, mChain, mIsi, fIsi, tyD, tyP, mSlice, oNo, oSome, mSeq, srcOf, mRange1, mRange2, sNext, sSeq, sIf, sRet, sRetN, sExpr, sSet, sAsg, sAug, sFor, sRaise, gSet, gMore, gNone, Mp.gTup, mMeth, fAppend, fLen, fInt, truth, ptruth, asB, pp1, pp2, ret1, dIs, isN, allP, frzD, mFrz, List.map_cons, List.map_nil, List.cons_append, List.nil_append, List.length_cons, List.length_nil, List.getElem?_cons_zero, List.getElem?_cons_succ, List.getElem?_nil, List.set_cons_zero, List.set_cons_succ, if_true, ite_true, Nat.reduceAdd, Nat.reduceSub, List.replicate, Bool.false_eq_true, if_false, Bool.not_true, Bool.not_false, mp_ft, mp_tf, isTy, beq_self_eq_true, isi0, isi1, isi2, isi3, isi4, isi5, isi6, isi7, isi8, isi9, isi10, isi11, isi12, isi13, isi14, isi15, isi16, isi17, isi18, isi19, isi20, isi21, isi22, isi23, isi24, isi25, isi26, isi27, isi28, isi29, isi30, isi31, isi32, isi33, isi34, isi35, isi36, isi37, isi38, isi39, isi40, isi41, onlyF, dIx_tup, dIx_lst, dIx_ref, ixAt_0, ixAt_1, ixAt_2, ixAt_3, iEq_int, iNe_int, dAdd, iAdd, iSub, iNeg, iCmp, iLe, iLt, iGe, iGt, dMul, iMulT, iMul, iMod, iDiv, gIx, setIx, decide_true, decide_false, decide_eq_true_eq, Bool.not_eq_true, List.length_map, gets_ok, gets_bind, gets_ite, rsw_ite, rsw_seq, rsw_thn, rsw_nx, rsw_ret, rst_x, rsx_seq, rsx_nx, rsx_ret, rsx_brk, rsx_cont, rsx_ite, rsx_thn, gets_fnM, onlyP, Option.map_some, Src.items]
      exact step_w hw'' (by omega) (by omega) fun s w' hs hw' => ⟨⟨rfl, hw'⟩, s, hs, rfl⟩
    · rintro as ⟨g', w'⟩ hla has ⟨rfl, hw''⟩
      rw [rng_len] at hla
      simp only [kFrz, allP_map, mVar, mK, mBin, mUn, mTru, mTest, mAnd, mOr, mNot, mAndV, mOrV, mNotV, mIf, mNil, mCons, mTup, mLst, mLstF, mCall, mChain, mIsi, fIsi, tyD, tyP, mSlice, oNo, oSome, mSeq, srcOf, mRange1, mRange2, sNext, sSeq, sIf, sRet, sRetN, sExpr, sSet, sAsg, sAug, sFor, sRaise, gSet, gMore, gNone, Mp.gTup, mMeth, fAppend, fLen, fInt, truth, ptruth, asB, pp1, pp2, ret1, dIs, isN, allP, frzD, mFrz, List.map_cons, List.map_nil, List.cons_append, List.nil_append, List.length_cons, List.length_nil, List.getElem?_cons_zero, List.getElem?_cons_succ, List.getElem?_nil, List.set_cons_zero, List.set_cons_succ, if_true, ite_true, Nat.reduceAdd, Nat.reduceSub, List.replicate, Bool.false_eq_true, if_false, Bool.not_true, Bool.not_false, mp_ft, mp_tf, isTy, beq_self_eq_true, isi0, isi1, isi2, isi3, isi4, isi5, isi6, isi7, isi8, isi9, isi10, isi11, isi12, isi13, isi14, isi15, isi16, isi17, isi18, isi19, isi20, isi21, isi22, isi23, isi24, isi25, isi26, isi27, isi28, isi29, isi30, isi31, isi32, isi33, isi34, isi35, isi36, isi37, isi38, isi39, isi40, isi41, onlyF, dIx_tup, dIx_lst, dIx_ref, ixAt_0, ixAt_1, ixAt_2, ixAt_3, iEq_int, iNe_int, dAdd, iAdd, iSub, iNeg, iCmp, iLe, iLt, iGe, iGt, dMul, iMulT, iMul, iMod, iDiv, gIx, setIx, decide_true, decide_false, decide_eq_true_eq, Bool.not_eq_true, List.length_map, gets_ok, gets_bind, gets_ite, rsw_ite, rsw_seq, rsw_thn, rsw_nx, rsw_ret, rst_x, rsx_seq, rsx_nx, rsx_ret, rsx_brk, rsx_cont, rsx_ite, rsx_thn, gets_fnM, onlyP, Option.map_some, Src.items, fTuple, lstP, z2, zr]
      refine ⟨rs ++ [⟨o, as⟩], w', _, by simp; omega, ?_, hw'', by simp [eR], rfl⟩
      intro r' hr'
      rcases List.mem_append.mp hr' with h' | h'
      · exact hrs r' h'
      · simp at h'
        subst h'
        exact ⟨by simpa using hla, ho, has⟩
  · rintro e s' ⟨rs, w', e7, hl, hrs, hw', rfl, rfl⟩
    simp only [List.length_nil, Nat.zero_add] at hl
    subst hl
    simp only [mVar, mK, mBin, mUn, mTru, mTest, mAnd, mOr, mNot, mAndV, mOrV, mNotV, mIf, mNil, mCons, mTup, mLst, mLstF, mCall, mChain, mIsi, fIsi, tyD, tyP, mSlice, oNo, oSome, mSeq, srcOf, mRange1, mRange2, sNext, sSeq, sIf, sRet, sRetN, sExpr, sSet, sAsg, sAug, sFor, sRaise, gSet, gMore, gNone, Mp.gTup, mMeth, fAppend, fLen, fInt, truth, ptruth, asB, pp1, pp2, ret1, dIs, isN, allP, frzD, mFrz, List.map_cons, List.map_nil, List.cons_append, List.nil_append, List.length_cons, List.length_nil, List.getElem?_cons_zero, List.getElem?_cons_succ, List.getElem?_nil, List.set_cons_zero, List.set_cons_succ, if_true, ite_true, Nat.reduceAdd, Nat.reduceSub, List.replicate, Bool.false_eq_true, if_false, Bool.not_true, Bool.not_false, mp_ft, mp_tf, isTy, beq_self_eq_true, isi0, isi1, isi2, isi3, isi4, isi5, isi6, isi7, isi8, isi9, isi10, isi11, isi12, isi13, isi14, isi15, isi16, isi17, isi18, isi19, isi20, isi21, isi22, isi23, isi24, isi25, isi26, isi27, isi28, isi29, isi30, isi31, isi32, isi33, isi34, isi35, isi36, isi37, isi38, isi39, isi40, isi41, onlyF, dIx_tup, dIx_lst, dIx_ref, ixAt_0, ixAt_1, ixAt_2, ixAt_3, iEq_int, iNe_int, dAdd, iAdd, iSub, iNeg, iCmp, iLe, iLt, iGe, iGt, dMul, iMulT, iMul, iMod, iDiv, gIx, setIx, decide_true, decide_false, decide_eq_true_eq, Bool.not_eq_true, List.length_map, gets_ok, gets_bind, gets_ite, rsw_ite, rsw_seq, rsw_thn, rsw_nx, rsw_ret, rst_x, rsx_seq, rsx_nx, rsx_ret, rsx_brk, rsx_cont, rsx_ite, rsx_thn, gets_fnM, onlyP, Option.map_some, Src.items, fTuple, lstP, allP_map, z2]
    exact ⟨_, rfl, h ⟨n, rs⟩ w' ⟨hn1, hn8, hq1, hq30, hrs⟩ hw'⟩
  · exact ⟨[], w8, none, by rw [rng_len]; simp, by simp, hw8, rfl, rfl⟩

/-! _law_is_int -/
theorem sc__law_is_int : FnScope ["_law_thing", "_law_least", "_law_most"] ["_law_thing", "_law_least", "_law_most"] (defScope t__law_is_int) := ⟨rfl, rfl, rfl, by decide +kernel, rfl, by decide +kernel, by decide +kernel⟩
theorem bn__law_is_int : BindN "_law_is_int" t__law_is_int ["_law_thing", "_law_least", "_law_most"] := fun _ _ _ _ _ _ us hl => match us, hl with | [_, _, _], _ => rfl
noncomputable def b__law_is_int : MS := (sRet (mAndV (mIsi "int" (mVar 0)) (mAndV (mNotV (mIsi "bool" (mVar 0))) (mAndV (mBin (pp2 iLe) (mVar 1) (mVar 0)) (mBin (pp2 iLe) (mVar 0) (mVar 2))))))
theorem raw__law_is_int (N : Nm K mg) : DefOk P w K mg base "_law_is_int" 1 3 (fnM 3 3 b__law_is_int) := def_mk N.d__law_is_int sc__law_is_int bn__law_is_int rfl rfl fun f cdv A outer s H E hr nd tk hp => (ss_one (s_ret (e_and (e_isi (T := "int") (by decide) rfl N.f_isinstance rfl N.f_int bt_int (e_var (i := 0))) (e_and (e_not (e_isi (T := "bool") (by decide) rfl N.f_isinstance rfl N.f_bool bt_bool (e_var (i := 0)))) (e_and (e_cmp o_leP (e_var (i := 1)) (e_var (i := 0)) (nomark _)) (e_one (e_cmp o_leP (e_var (i := 0)) (e_var (i := 2)) (nomark _))))))))
def M__law_is_int : List D → S → R D := fun ds s => match ds with
  | [.p x, .p (.int a), .p (.int b)] => .ok (.p (.bool (isBetween x a b))) s
  | _ => .bad
theorem ok__law_is_int (N : Nm K mg) : DefOk P w K mg base "_law_is_int" 1 3 M__law_is_int := (raw__law_is_int N).alone.eqv fun ds s => by
  unfold M__law_is_int
  split
  · rename_i x a b
    left
    cases x <;> try rfl
    rename_i i
    by_cases h : a ≤ i <;> simp [b__law_is_int, pureRun, onlyP, fnM, mVar, mK, mBin, mUn, mTru, mTest, mAnd, mOr, mNot, mAndV, mOrV, mNotV, mIf, mNil, mCons, mTup, mLst, mLstF, mCall, mChain, mIsi, fIsi, tyD, tyP, mSlice, oNo, oSome, mSeq, srcOf, mRange1, mRange2, sNext, sSeq, sIf, sRet, sRetN, sExpr, sSet, sAsg, sAug, sFor, sRaise, gSet, gMore, gNone, Mp.gTup, mMeth, fAppend, fLen, fInt, truth, ptruth, asB, pp1, pp2, ret1, dIs, isN, allP, frzD, mFrz, Mp.R.bind, R.thn, RS.seq, List.map_cons, List.map_nil, List.cons_append, List.nil_append, List.length_cons, List.length_nil, List.getElem?_cons_zero, List.getElem?_cons_succ, List.getElem?_nil, List.set_cons_zero, List.set_cons_succ, if_true, ite_true, Nat.reduceAdd, Nat.reduceSub, List.replicate, Bool.false_eq_true, if_false, Bool.not_true, Bool.not_false, mp_ft, mp_tf, isTy, beq_self_eq_true, isi0, isi1, isi2, isi3, isi4, isi5, isi6, isi7, isi8, isi9, isi10, isi11, isi12, isi13, isi14, isi15, isi16, isi17, isi18, isi19, isi20, isi21, isi22, isi23, isi24, isi25, isi26, isi27, isi28, isi29, isi30, isi31, isi32, isi33, isi34, isi35, isi36, isi37, isi38, isi39, isi40, isi41, onlyF, dIx_tup, dIx_lst, dIx_ref, ixAt_0, ixAt_1, ixAt_2, ixAt_3, iEq_int, iNe_int, dAdd, iAdd, iSub, iNeg, iCmp, iLe, iLt, iGe, iGt, dMul, iMulT, iMul, iMod, iDiv, gIx, setIx, decide_true, decide_false, decide_eq_true_eq, Bool.not_eq_true, List.length_map, isBetween, h]
  · exact .inr rfl

/-! _law_long -/
theorem sc__law_long : FnScope ["_law_thing", "_law_many"] ["_law_thing", "_law_many"] (defScope t__law_long) := ⟨rfl, rfl, rfl, by decide +kernel, rfl, by decide +kernel, by decide +kernel⟩
theorem bn__law_long : BindN "_law_long" t__law_long ["_law_thing", "_law_many"] := fun _ _ _ _ _ _ us hl => match us, hl with | [_, _], _ => rfl
noncomputable def b__law_long : MS := (sRet (mAndV (mIsi "tuple" (mVar 0)) (mBin (pp2 iEq) (mCall fLen (mCons (mVar 0) mNil)) (mVar 1))))
theorem raw__law_long (N : Nm K mg) : DefOk P w K mg base "_law_long" 1 2 (fnM 2 2 b__law_long) := def_mk N.d__law_long sc__law_long bn__law_long rfl rfl fun f cdv A outer s H E hr nd tk hp => (ss_one (s_ret (e_and (e_isi (T := "tuple") (by decide) rfl N.f_isinstance rfl N.f_tuple bt_tuple (e_var (i := 0))) (e_one (e_cmp (o_eq hr.units) (e_bi b_len rfl N.f_len bt_len (a_cons (e_var (i := 0)) a_nil)) (e_var (i := 1)) (nomark _))))))
def M__law_long : List D → S → R D := fun ds s => match ds with
  | [.p x, .p (.int n)] => .ok (.p (.bool (isTupleOf x n))) s
  | _ => .bad
theorem ok__law_long (N : Nm K mg) : DefOk P w K mg base "_law_long" 1 2 M__law_long := (raw__law_long N).alone.eqv fun ds s => by
  unfold M__law_long
  split
  · rename_i x n
    left
    cases x <;> rfl
  · exact .inr rfl

/-! _law_step_fits -/
theorem sc__law_step_fits : FnScope ["_law_thing", "_law_states"] ["_law_thing", "_law_states"] (defScope t__law_step_fits) := ⟨rfl, rfl, rfl, by decide +kernel, rfl, by decide +kernel, by decide +kernel⟩
theorem bn__law_step_fits : BindN "_law_step_fits" t__law_step_fits ["_law_thing", "_law_states"] := fun _ _ _ _ _ _ us hl => match us, hl with | [_, _], _ => rfl
noncomputable def b__law_step_fits : MS := (sSeq (sIf (mTest (mBin (dIs true) (mVar 0) (mK .none))) (sRet (mK (.bool true))) sNext) (sRet (mAndV (mCall M__law_long (mCons (mVar 0) (mCons (mK (.int 2)) mNil))) (mAndV (mCall M__law_is_int (mCons (mBin dIx (mVar 0) (mK (.int 0))) (mCons (mK (.int 0)) (mCons (mK (.int 60)) mNil)))) (mCall M__law_is_int (mCons (mBin dIx (mVar 0) (mK (.int 1))) (mCons (mK (.int 0)) (mCons (mBin (pp2 iSub) (mVar 1) (mK (.int 1))) mNil))))))))
theorem raw__law_step_fits (N : Nm K mg) : DefOk P w K mg base "_law_step_fits" 2 2 (fnM 2 2 b__law_step_fits) := def_mk N.d__law_step_fits sc__law_step_fits bn__law_step_fits rfl rfl fun f cdv A outer s H E hr nd tk hp => (ss_cons (s_if (t_cmp o_is (e_var (i := 0)) e_none (nomark _)) (ss_one (s_ret e_bool)) ss_nil) (ss_one (s_ret (e_and (e_callS (ok__law_long N) hr (by decide) tk (a_cons (e_var (i := 0)) (a_cons e_int a_nil)) (argN_cons (argN_cons argN_nil))) (e_and (e_callS (ok__law_is_int N) hr (by decide) tk (a_cons (e_ix (e_var (i := 0)) e_int) (a_cons e_int (a_cons e_int a_nil))) (argN_cons (argN_cons (argN_cons argN_nil)))) (e_one (e_callS (ok__law_is_int N) hr (by decide) tk (a_cons (e_ix (e_var (i := 0)) e_int) (a_cons e_int (a_cons (e_bin o_sub (e_var (i := 1)) e_int) a_nil))) (argN_cons (argN_cons (argN_cons argN_nil))))))))))
def M__law_step_fits : List D → S → R D := fun ds s => match ds with
  | [.p x, .p (.int q)] => .ok (.p (.bool (isStep x q))) s
  | _ => .bad
theorem ok__law_step_fits (N : Nm K mg) : DefOk P w K mg base "_law_step_fits" 2 2 M__law_step_fits := (raw__law_step_fits N).alone.eqv fun ds s => by
  unfold M__law_step_fits
  split
  · rename_i x q
    left
    cases x <;> try rfl
    rename_i ps
    rcases ps with _ | ⟨a, _ | ⟨b, _ | ⟨c, r⟩⟩⟩
    · rfl
    · rfl
    · cases h : isBetween a 0 60 <;> simp [b__law_step_fits, pureRun, onlyP, fnM, mVar, mK, mBin, mUn, mTru, mTest, mAnd, mOr, mNot, mAndV, mOrV, mNotV, mIf, mNil, mCons, mTup, mLst, mLstF, mCall, mChain, mIsi, fIsi, tyD, tyP, mSlice, oNo, oSome, mSeq, srcOf, mRange1, mRange2, sNext, sSeq, sIf, sRet, sRetN, sExpr, sSet, sAsg, sAug, sFor, sRaise, gSet, gMore, gNone, Mp.gTup, mMeth, fAppend, fLen, fInt, truth, ptruth, asB, pp1, pp2, ret1, dIs, isN, allP, frzD, mFrz, Mp.R.bind, R.thn, RS.seq, List.map_cons, List.map_nil, List.cons_append, List.nil_append, List.length_cons, List.length_nil, List.getElem?_cons_zero, List.getElem?_cons_succ, List.getElem?_nil, List.set_cons_zero, List.set_cons_succ, if_true, ite_true, Nat.reduceAdd, Nat.reduceSub, List.replicate, Bool.false_eq_true, if_false, Bool.not_true, Bool.not_false, mp_ft, mp_tf, isTy, beq_self_eq_true, isi0, isi1, isi2, isi3, isi4, isi5, isi6, isi7, isi8, isi9, isi10, isi11, isi12, isi13, isi14, isi15, isi16, isi17, isi18, isi19, isi20, isi21, isi22, isi23, isi24, isi25, isi26, isi27, isi28, isi29, isi30, isi31, isi32, isi33, isi34, isi35, isi36, isi37, isi38, isi39, isi40, isi41, onlyF, dIx_tup, dIx_lst, dIx_ref, ixAt_0, ixAt_1, ixAt_2, ixAt_3, iEq_int, iNe_int, dAdd, iAdd, iSub, iNeg, iCmp, iLe, iLt, iGe, iGt, dMul, iMulT, iMul, iMod, iDiv, gIx, setIx, decide_true, decide_false, decide_eq_true_eq, Bool.not_eq_true, List.length_map, isStep, isTupleOf, M__law_long, M__law_is_int, isIndex, h]
    · have : ¬ ((r.length : Int) + 1 + 1 + 1 = 2) := by omega
      simp [b__law_step_fits, pureRun, onlyP, fnM, mVar, mK, mBin, mUn, mTru, mTest, mAnd, mOr, mNot, mAndV, mOrV, mNotV, mIf, mNil, mCons, mTup, mLst, mLstF, mCall, mChain, mIsi, fIsi, tyD, tyP, mSlice, oNo, oSome, mSeq, srcOf, mRange1, mRange2, sNext, sSeq, sIf, sRet, sRetN, sExpr, sSet, sAsg, sAug, sFor, sRaise, gSet, gMore, gNone, Mp.gTup, mMeth, fAppend, fLen, fInt, truth, ptruth, asB, pp1, pp2, ret1, dIs, isN, allP, frzD, mFrz, Mp.R.bind, R.thn, RS.seq, List.map_cons, List.map_nil, List.cons_append, List.nil_append, List.length_cons, List.length_nil, List.getElem?_cons_zero, List.getElem?_cons_succ, List.getElem?_nil, List.set_cons_zero, List.set_cons_succ, if_true, ite_true, Nat.reduceAdd, Nat.reduceSub, List.replicate, Bool.false_eq_true, if_false, Bool.not_true, Bool.not_false, mp_ft, mp_tf, isTy, beq_self_eq_true, isi0, isi1, isi2, isi3, isi4, isi5, isi6, isi7, isi8, isi9, isi10, isi11, isi12, isi13, isi14, isi15, isi16, isi17, isi18, isi19, isi20, isi21, isi22, isi23, isi24, isi25, isi26, isi27, isi28, isi29, isi30, isi31, isi32, isi33, isi34, isi35, isi36, isi37, isi38, isi39, isi40, isi41, onlyF, dIx_tup, dIx_lst, dIx_ref, ixAt_0, ixAt_1, ixAt_2, ixAt_3, iEq_int, iNe_int, dAdd, iAdd, iSub, iNeg, iCmp, iLe, iLt, iGe, iGt, dMul, iMulT, iMul, iMod, iDiv, gIx, setIx, decide_true, decide_false, decide_eq_true_eq, Bool.not_eq_true, List.length_map, isStep, isTupleOf, M__law_long, this]
  · exact .inr rfl

/-! _law_row_fits -/
theorem sc__law_row_fits : FnScope ["_law_thing", "_law_size", "_law_states", "_law_step_here"] ["_law_thing", "_law_size", "_law_states"] (defScope t__law_row_fits) := ⟨rfl, rfl, rfl, by decide +kernel, rfl, by decide +kernel, by decide +kernel⟩
theorem bn__law_row_fits : BindN "_law_row_fits" t__law_row_fits ["_law_thing", "_law_size", "_law_states"] := fun _ _ _ _ _ _ us hl => match us, hl with | [_, _, _], _ => rfl
noncomputable def b__law_row_fits : MS := (sSeq (sIf (mOr (mNot (mTru (mCall M__law_long (mCons (mVar 0) (mCons (mK (.int 2)) mNil))))) (mNot (mTru (mCall M__law_long (mCons (mBin dIx (mVar 0) (mK (.int 1))) (mCons (mVar 1) mNil)))))) (sRet (mK (.bool false))) sNext) (sSeq (sIf (mAnd (mTest (mBin (dIs false) (mBin dIx (mVar 0) (mK (.int 0))) (mK .none))) (mNot (mTru (mCall M__law_is_int (mCons (mBin dIx (mVar 0) (mK (.int 0))) (mCons (mK (.int 1)) (mCons (mK (.int 60)) mNil))))))) (sRet (mK (.bool false))) sNext) (sRet (mCall fAll (mCons (mLc (mSeq (mBin dIx (mVar 0) (mK (.int 1)))) [3] (gSet 3) mYes (mCall M__law_step_fits (mCons (mVar 3) (mCons (mVar 2) mNil))) kFrz) mNil)))))
theorem raw__law_row_fits (N : Nm K mg) : DefOk P w K mg base "_law_row_fits" 3 3 (fnM 3 4 b__law_row_fits) := def_mk N.d__law_row_fits sc__law_row_fits bn__law_row_fits rfl rfl fun f cdv A outer s H E hr nd tk hp => (ss_cons (s_if (t_w (w_or (t_not (t_tru (e_callS (ok__law_long N) hr (by decide) tk (a_cons (e_var (i := 0)) (a_cons e_int a_nil)) (argN_cons (argN_cons argN_nil))))) (w_or1 (t_not (t_tru (e_callS (ok__law_long N) hr (by decide) tk (a_cons (e_ix (e_var (i := 0)) e_int) (a_cons (e_var (i := 1)) a_nil)) (argN_cons (argN_cons argN_nil)))))))) (ss_one (s_ret e_bool)) ss_nil) (ss_cons (s_if (t_w (w_and (t_cmp o_isnot (e_ix (e_var (i := 0)) e_int) e_none (nomark _)) (w_and1 (t_not (t_tru (e_callS (ok__law_is_int N) hr (by decide) tk (a_cons (e_ix (e_var (i := 0)) e_int) (a_cons e_int (a_cons e_int a_nil))) (argN_cons (argN_cons (argN_cons argN_nil))))))))) (ss_one (s_ret e_bool)) ss_nil) (ss_one (s_ret (e_bi (b_all rfl) rfl N.f_all bt_all (a_cons (e_lcF (own := [("_law_step_here", 3)]) rfl nd (i_seq (e_ix (e_var (i := 0)) e_int)) (blkOk_by (N := ["_law_thing", "_law_size", "_law_states", "_law_step_here"]) (sc := defScope t__law_row_fits) (own := [("_law_step_here", 3)]) (by decide +kernel)) (tg_name (i := 3) (by decide)) (fun _ _ _ _ _ => pg_name (i := 3) nd rfl (by first | exact Or.inl rfl | exact Or.inr rfl)) (fun _ _ _ _ _ => c_no) (fun _ _ _ _ _ => (e_callS (ok__law_step_fits N) hr (by decide) takes0 (a_cons (e_var (i := 3)) (a_cons (e_var (i := 2)) a_nil)) (argN_cons (argN_cons argN_nil))))) a_nil))))))
def M__law_row_fits : List D → S → R D := fun ds s => match ds with
  | [.p x, .p (.int n), .p (.int q)] => if n ≤ 8 then .ok (.p (.bool (isRow x n q))) s else .bad
  | _ => .bad
theorem ok__law_row_fits (N : Nm K mg) : DefOk P w K mg base "_law_row_fits" 3 3 M__law_row_fits := (raw__law_row_fits N).alone.eqv fun ds s => by
  unfold M__law_row_fits
  split
  · rename_i x n q
    split
    · rename_i hn
      left
      cases x <;> try rfl
      rename_i ps
      rcases ps with _ | ⟨a, _ | ⟨b, _ | ⟨c, r⟩⟩⟩
      · rfl
      · rfl
      · cases b <;> try (simp [b__law_row_fits, pureRun, onlyP, fnM, mVar, mK, mBin, mUn, mTru, mTest, mAnd, mOr, mNot, mAndV, mOrV, mNotV, mIf, mNil, mCons, mTup, mLst, mLstF, mCall, mChain, mIsi, fIsi, tyD, tyP, mSlice, oNo, oSome, mSeq, srcOf, mRange1, mRange2, sNext, sSeq, sIf, sRet, sRetN, sExpr, sSet, sAsg, sAug, sFor, sRaise, gSet, gMore, gNone, Mp.gTup, mMeth, fAppend, fLen, fInt, truth, ptruth, asB, pp1, pp2, ret1, dIs, isN, allP, frzD, mFrz, Mp.R.bind, R.thn, RS.seq, List.map_cons, List.map_nil, List.cons_append, List.nil_append, List.length_cons, List.length_nil, List.getElem?_cons_zero, List.getElem?_cons_succ, List.getElem?_nil, List.set_cons_zero, List.set_cons_succ, if_true, ite_true, Nat.reduceAdd, Nat.reduceSub, List.replicate, Bool.false_eq_true, if_false, Bool.not_true, Bool.not_false, mp_ft, mp_tf, isTy, beq_self_eq_true, isi0, isi1, isi2, isi3, isi4, isi5, isi6, isi7, isi8, isi9, isi10, isi11, isi12, isi13, isi14, isi15, isi16, isi17, isi18, isi19, isi20, isi21, isi22, isi23, isi24, isi25, isi26, isi27, isi28, isi29, isi30, isi31, isi32, isi33, isi34, isi35, isi36, isi37, isi38, isi39, isi40, isi41, onlyF, dIx_tup, dIx_lst, dIx_ref, ixAt_0, ixAt_1, ixAt_2, ixAt_3, iEq_int, iNe_int, dAdd, iAdd, iSub, iNeg, iCmp, iLe, iLt, iGe, iGt, dMul, iMulT, iMul, iMod, iDiv, gIx, setIx, decide_true, decide_false, decide_eq_true_eq, Bool.not_eq_true, List.length_map, isRow, isTupleOf, M__law_long]; done)
        rename_i ss
        by_cases hl : (ss.length : Int) = n
        · have hz : sizeOk ss.length = true := sizeOk_of (by omega)
          have e0 : ∀ e1 e2 w, lcL (Src.fix (ss.map D.p)).ok (gSet 3) mYes (mCall M__law_step_fits (mCons (mVar 3) (mCons (mVar 2) mNil))) [e1, e2, some (.p (.int q)), none] (ss.map D.p) ⟨[], w⟩ = .ok (ss.map fun x => .p (.bool (isStep x q))) ⟨[], w⟩ := fun e1 e2 w => lc_map trivial fun x _ => by simp [pureRun, onlyP, fnM, mVar, mK, mBin, mUn, mTru, mTest, mAnd, mOr, mNot, mAndV, mOrV, mNotV, mIf, mNil, mCons, mTup, mLst, mLstF, mCall, mChain, mIsi, fIsi, tyD, tyP, mSlice, oNo, oSome, mSeq, srcOf, mRange1, mRange2, sNext, sSeq, sIf, sRet, sRetN, sExpr, sSet, sAsg, sAug, sFor, sRaise, gSet, gMore, gNone, Mp.gTup, mMeth, fAppend, fLen, fInt, truth, ptruth, asB, pp1, pp2, ret1, dIs, isN, allP, frzD, mFrz, Mp.R.bind, R.thn, RS.seq, List.map_cons, List.map_nil, List.cons_append, List.nil_append, List.length_cons, List.length_nil, List.getElem?_cons_zero, List.getElem?_cons_succ, List.getElem?_nil, List.set_cons_zero, List.set_cons_succ, if_true, ite_true, Nat.reduceAdd, Nat.reduceSub, List.replicate, Bool.false_eq_true, if_false, Bool.not_true, Bool.not_false, M__law_step_fits]
          cases a <;> simp [b__law_row_fits, pureRun, onlyP, fnM, mVar, mK, mBin, mUn, mTru, mTest, mAnd, mOr, mNot, mAndV, mOrV, mNotV, mIf, mNil, mCons, mTup, mLst, mLstF, mCall, mChain, mIsi, fIsi, tyD, tyP, mSlice, oNo, oSome, mSeq, srcOf, mRange1, mRange2, sNext, sSeq, sIf, sRet, sRetN, sExpr, sSet, sAsg, sAug, sFor, sRaise, gSet, gMore, gNone, Mp.gTup, mMeth, fAppend, fLen, fInt, truth, ptruth, asB, pp1, pp2, ret1, dIs, isN, allP, frzD, mFrz, Mp.R.bind, R.thn, RS.seq, List.map_cons, List.map_nil, List.cons_append, List.nil_append, List.length_cons, List.length_nil, List.getElem?_cons_zero, List.getElem?_cons_succ, List.getElem?_nil, List.set_cons_zero, List.set_cons_succ, if_true, ite_true, Nat.reduceAdd, Nat.reduceSub, List.replicate, Bool.false_eq_true, if_false, Bool.not_true, Bool.not_false, mp_ft, mp_tf, isTy, beq_self_eq_true, isi0, isi1, isi2, isi3, isi4, isi5, isi6, isi7, isi8, isi9, isi10, isi11, isi12, isi13, isi14, isi15, isi16, isi17, isi18, isi19, isi20, isi21, isi22, isi23, isi24, isi25, isi26, isi27, isi28, isi29, isi30, isi31, isi32, isi33, isi34, isi35, isi36, isi37, isi38, isi39, isi40, isi41, onlyF, dIx_tup, dIx_lst, dIx_ref, ixAt_0, ixAt_1, ixAt_2, ixAt_3, iEq_int, iNe_int, dAdd, iAdd, iSub, iNeg, iCmp, iLe, iLt, iGe, iGt, dMul, iMulT, iMul, iMod, iDiv, gIx, setIx, decide_true, decide_false, decide_eq_true_eq, Bool.not_eq_true, List.length_map, isRow, isTupleOf, M__law_long, hl, isFin, isBetween, M__law_is_int, mLc, wipeE, Src.items, hz, e0, kFrz, fAll, lstP, -List.map_map, allP_map, allB_map]
          rename_i i
          by_cases h : i < 1 ∨ 60 < i
          · have : ¬ (1 ≤ i ∧ i ≤ 60) := by omega
            simp [h]
            omega
          · have h1 : 1 ≤ i := by omega
            have h2 : i ≤ 60 := by omega
            simp [h, h1, h2, pureRun, onlyP, fnM, mVar, mK, mBin, mUn, mTru, mTest, mAnd, mOr, mNot, mAndV, mOrV, mNotV, mIf, mNil, mCons, mTup, mLst, mLstF, mCall, mChain, mIsi, fIsi, tyD, tyP, mSlice, oNo, oSome, mSeq, srcOf, mRange1, mRange2, sNext, sSeq, sIf, sRet, sRetN, sExpr, sSet, sAsg, sAug, sFor, sRaise, gSet, gMore, gNone, Mp.gTup, mMeth, fAppend, fLen, fInt, truth, ptruth, asB, pp1, pp2, ret1, dIs, isN, allP, frzD, mFrz, Mp.R.bind, R.thn, RS.seq, List.map_cons, List.map_nil, List.cons_append, List.nil_append, List.length_cons, List.length_nil, List.getElem?_cons_zero, List.getElem?_cons_succ, List.getElem?_nil, List.set_cons_zero, List.set_cons_succ, if_true, ite_true, Nat.reduceAdd, Nat.reduceSub, List.replicate, Bool.false_eq_true, if_false, Bool.not_true, Bool.not_false, mp_ft, mp_tf, isTy, beq_self_eq_true, isi0, isi1, isi2, isi3, isi4, isi5, isi6, isi7, isi8, isi9, isi10, isi11, isi12, isi13, isi14, isi15, isi16, isi17, isi18, isi19, isi20, isi21, isi22, isi23, isi24, isi25, isi26, isi27, isi28, isi29, isi30, isi31, isi32, isi33, isi34, isi35, isi36, isi37, isi38, isi39, isi40, isi41, onlyF, dIx_tup, dIx_lst, dIx_ref, ixAt_0, ixAt_1, ixAt_2, ixAt_3, iEq_int, iNe_int, dAdd, iAdd, iSub, iNeg, iCmp, iLe, iLt, iGe, iGt, dMul, iMulT, iMul, iMod, iDiv, gIx, setIx, decide_true, decide_false, decide_eq_true_eq, Bool.not_eq_true, List.length_map, mLc, wipeE, Src.items, hz, e0, kFrz, fAll, lstP, -List.map_map, allP_map, allB_map]
        · simp [b__law_row_fits, pureRun, onlyP, fnM, mVar, mK, mBin, mUn, mTru, mTest, mAnd, mOr, mNot, mAndV, mOrV, mNotV, mIf, mNil, mCons, mTup, mLst, mLstF, mCall, mChain, mIsi, fIsi, tyD, tyP, mSlice, oNo, oSome, mSeq, srcOf, mRange1, mRange2, sNext, sSeq, sIf, sRet, sRetN, sExpr, sSet, sAsg, sAug, sFor, sRaise, gSet, gMore, gNone, Mp.gTup, mMeth, fAppend, fLen, fInt, truth, ptruth, asB, pp1, pp2, ret1, dIs, isN, allP, frzD, mFrz, Mp.R.bind, R.thn, RS.seq, List.map_cons, List.map_nil, List.cons_append, List.nil_append, List.length_cons, List.length_nil, List.getElem?_cons_zero, List.getElem?_cons_succ, List.getElem?_nil, List.set_cons_zero, List.set_cons_succ, if_true, ite_true, Nat.reduceAdd, Nat.reduceSub, List.replicate, Bool.false_eq_true, if_false, Bool.not_true, Bool.not_false, mp_ft, mp_tf, isTy, beq_self_eq_true, isi0, isi1, isi2, isi3, isi4, isi5, isi6, isi7, isi8, isi9, isi10, isi11, isi12, isi13, isi14, isi15, isi16, isi17, isi18, isi19, isi20, isi21, isi22, isi23, isi24, isi25, isi26, isi27, isi28, isi29, isi30, isi31, isi32, isi33, isi34, isi35, isi36, isi37, isi38, isi39, isi40, isi41, onlyF, dIx_tup, dIx_lst, dIx_ref, ixAt_0, ixAt_1, ixAt_2, ixAt_3, iEq_int, iNe_int, dAdd, iAdd, iSub, iNeg, iCmp, iLe, iLt, iGe, iGt, dMul, iMulT, iMul, iMod, iDiv, gIx, setIx, decide_true, decide_false, decide_eq_true_eq, Bool.not_eq_true, List.length_map, isRow, isTupleOf, M__law_long, hl]
      · have : ¬ ((r.length : Int) + 1 + 1 + 1 = 2) := by omega
        simp [b__law_row_fits, pureRun, onlyP, fnM, mVar, mK, mBin, mUn, mTru, mTest, mAnd, mOr, mNot, mAndV, mOrV, mNotV, mIf, mNil, mCons, mTup, mLst, mLstF, mCall, mChain, mIsi, fIsi, tyD, tyP, mSlice, oNo, oSome, mSeq, srcOf, mRange1, mRange2, sNext, sSeq, sIf, sRet, sRetN, sExpr, sSet, sAsg, sAug, sFor, sRaise, gSet, gMore, gNone, Mp.gTup, mMeth, fAppend, fLen, fInt, truth, ptruth, asB, pp1, pp2, ret1, dIs, isN, allP, frzD, mFrz, Mp.R.bind, R.thn, RS.seq, List.map_cons, List.map_nil, List.cons_append, List.nil_append, List.length_cons, List.length_nil, List.getElem?_cons_zero, List.getElem?_cons_succ, List.getElem?_nil, List.set_cons_zero, List.set_cons_succ, if_true, ite_true, Nat.reduceAdd, Nat.reduceSub, List.replicate, Bool.false_eq_true, if_false, Bool.not_true, Bool.not_false, mp_ft, mp_tf, isTy, beq_self_eq_true, isi0, isi1, isi2, isi3, isi4, isi5, isi6, isi7, isi8, isi9, isi10, isi11, isi12, isi13, isi14, isi15, isi16, isi17, isi18, isi19, isi20, isi21, isi22, isi23, isi24, isi25, isi26, isi27, isi28, isi29, isi30, isi31, isi32, isi33, isi34, isi35, isi36, isi37, isi38, isi39, isi40, isi41, onlyF, dIx_tup, dIx_lst, dIx_ref, ixAt_0, ixAt_1, ixAt_2, ixAt_3, iEq_int, iNe_int, dAdd, iAdd, iSub, iNeg, iCmp, iLe, iLt, iGe, iGt, dMul, iMulT, iMul, iMod, iDiv, gIx, setIx, decide_true, decide_false, decide_eq_true_eq, Bool.not_eq_true, List.length_map, isRow, isTupleOf, M__law_long, this]
    · exact .inr rfl
  · exact .inr rfl

/-! _law_machine_fits -/
theorem sc__law_machine_fits : FnScope ["_law_thing", "_law_states", "_law_row"] ["_law_thing"] (defScope t__law_machine_fits) := ⟨rfl, rfl, rfl, by decide +kernel, rfl, by decide +kernel, by decide +kernel⟩
theorem bn__law_machine_fits : BindN "_law_machine_fits" t__law_machine_fits ["_law_thing"] := fun _ _ _ _ _ _ us hl => match us, hl with | [_], _ => rfl
noncomputable def b__law_machine_fits : MS := (sSeq (sIf (mOr (mNot (mTru (mCall M__law_long (mCons (mVar 0) (mCons (mK (.int 2)) mNil))))) (mOr (mNot (mTru (mCall M__law_is_int (mCons (mBin dIx (mVar 0) (mK (.int 0))) (mCons (mK (.int 1)) (mCons (mK (.int 8)) mNil)))))) (mNot (mTru (mIsi "tuple" (mBin dIx (mVar 0) (mK (.int 1)))))))) (sRet (mK (.bool false))) sNext) (sSeq (sSet 1 (mCall fLen (mCons (mBin dIx (mVar 0) (mK (.int 1))) mNil))) (sRet (mAndV (mBin (pp2 iLe) (mK (.int 1)) (mVar 1)) (mAndV (mBin (pp2 iLe) (mVar 1) (mK (.int 30))) (mCall fAll (mCons (mLc (mSeq (mBin dIx (mVar 0) (mK (.int 1)))) [2] (gSet 2) mYes (mCall M__law_row_fits (mCons (mVar 2) (mCons (mBin dIx (mVar 0) (mK (.int 0))) (mCons (mVar 1) mNil)))) kFrz) mNil)))))))
theorem raw__law_machine_fits (N : Nm K mg) : DefOk P w K mg base "_law_machine_fits" 4 1 (fnM 1 3 b__law_machine_fits) := def_mk N.d__law_machine_fits sc__law_machine_fits bn__law_machine_fits rfl rfl fun f cdv A outer s H E hr nd tk hp => (ss_cons (s_if (t_w (w_or (t_not (t_tru (e_callS (ok__law_long N) hr (by decide) tk (a_cons (e_var (i := 0)) (a_cons e_int a_nil)) (argN_cons (argN_cons argN_nil))))) (w_or (t_not (t_tru (e_callS (ok__law_is_int N) hr (by decide) tk (a_cons (e_ix (e_var (i := 0)) e_int) (a_cons e_int (a_cons e_int a_nil))) (argN_cons (argN_cons (argN_cons argN_nil)))))) (w_or1 (t_not (t_tru (e_isi (T := "tuple") (by decide) rfl N.f_isinstance rfl N.f_tuple bt_tuple (e_ix (e_var (i := 0)) e_int)))))))) (ss_one (s_ret e_bool)) ss_nil) (ss_cons (s_set (i := 1) nd (e_bi b_len rfl N.f_len bt_len (a_cons (e_ix (e_var (i := 0)) e_int) a_nil))) (ss_one (s_ret (e_and (e_cmp o_leP e_int (e_var (i := 1)) (nomark _)) (e_and (e_cmp o_leP (e_var (i := 1)) e_int (nomark _)) (e_one (e_bi (b_all rfl) rfl N.f_all bt_all (a_cons (e_lcF (own := [("_law_row", 2)]) rfl nd (i_seq (e_ix (e_var (i := 0)) e_int)) (blkOk_by (N := ["_law_thing", "_law_states", "_law_row"]) (sc := defScope t__law_machine_fits) (own := [("_law_row", 2)]) (by decide +kernel)) (tg_name (i := 2) (by decide)) (fun _ _ _ _ _ => pg_name (i := 2) nd rfl (by first | exact Or.inl rfl | exact Or.inr rfl)) (fun _ _ _ _ _ => c_no) (fun _ _ _ _ _ => (e_callS (ok__law_row_fits N) hr (by decide) takes0 (a_cons (e_var (i := 2)) (a_cons (e_ix (e_var (i := 0)) e_int) (a_cons (e_var (i := 1)) a_nil))) (argN_cons (argN_cons (argN_cons argN_nil)))))) a_nil)))))))))
def M__law_machine_fits : List D → S → R D := fun ds s => match ds with
  | [.p x] => .ok (.p (.bool (isMachine x))) s
  | _ => .bad
theorem ok__law_machine_fits (N : Nm K mg) : DefOk P w K mg base "_law_machine_fits" 4 1 M__law_machine_fits := (raw__law_machine_fits N).alone.eqv fun ds s => by
  unfold M__law_machine_fits
  split
  · rename_i x
    left
    cases x <;> try rfl
    rename_i ps
    rcases ps with _ | ⟨a, _ | ⟨b, _ | ⟨c, r⟩⟩⟩
    · rfl
    · cases a <;> rfl
    · cases a <;> try (simp [b__law_machine_fits, pureRun, onlyP, fnM, mVar, mK, mBin, mUn, mTru, mTest, mAnd, mOr, mNot, mAndV, mOrV, mNotV, mIf, mNil, mCons, mTup, mLst, mLstF, mCall, mChain, mIsi, fIsi, tyD, tyP, mSlice, oNo, oSome, mSeq, srcOf, mRange1, mRange2, sNext, sSeq, sIf, sRet, sRetN, sExpr, sSet, sAsg, sAug, sFor, sRaise, gSet, gMore, gNone, Mp.gTup, mMeth, fAppend, fLen, fInt, truth, ptruth, asB, pp1, pp2, ret1, dIs, isN, allP, frzD, mFrz, Mp.R.bind, R.thn, RS.seq, List.map_cons, List.map_nil, List.cons_append, List.nil_append, List.length_cons, List.length_nil, List.getElem?_cons_zero, List.getElem?_cons_succ, List.getElem?_nil, List.set_cons_zero, List.set_cons_succ, if_true, ite_true, Nat.reduceAdd, Nat.reduceSub, List.replicate, Bool.false_eq_true, if_false, Bool.not_true, Bool.not_false, mp_ft, mp_tf, isTy, beq_self_eq_true, isi0, isi1, isi2, isi3, isi4, isi5, isi6, isi7, isi8, isi9, isi10, isi11, isi12, isi13, isi14, isi15, isi16, isi17, isi18, isi19, isi20, isi21, isi22, isi23, isi24, isi25, isi26, isi27, isi28, isi29, isi30, isi31, isi32, isi33, isi34, isi35, isi36, isi37, isi38, isi39, isi40, isi41, onlyF, dIx_tup, dIx_lst, dIx_ref, ixAt_0, ixAt_1, ixAt_2, ixAt_3, iEq_int, iNe_int, dAdd, iAdd, iSub, iNeg, iCmp, iLe, iLt, iGe, iGt, dMul, iMulT, iMul, iMod, iDiv, gIx, setIx, decide_true, decide_false, decide_eq_true_eq, Bool.not_eq_true, List.length_map, isMachine, isTupleOf, M__law_long, M__law_is_int, isBetween, isi0]; done)
      rename_i n
      by_cases hn : 1 ≤ n ∧ n ≤ 8
      · cases b <;> try (simp [b__law_machine_fits, pureRun, onlyP, fnM, mVar, mK, mBin, mUn, mTru, mTest, mAnd, mOr, mNot, mAndV, mOrV, mNotV, mIf, mNil, mCons, mTup, mLst, mLstF, mCall, mChain, mIsi, fIsi, tyD, tyP, mSlice, oNo, oSome, mSeq, srcOf, mRange1, mRange2, sNext, sSeq, sIf, sRet, sRetN, sExpr, sSet, sAsg, sAug, sFor, sRaise, gSet, gMore, gNone, Mp.gTup, mMeth, fAppend, fLen, fInt, truth, ptruth, asB, pp1, pp2, ret1, dIs, isN, allP, frzD, mFrz, Mp.R.bind, R.thn, RS.seq, List.map_cons, List.map_nil, List.cons_append, List.nil_append, List.length_cons, List.length_nil, List.getElem?_cons_zero, List.getElem?_cons_succ, List.getElem?_nil, List.set_cons_zero, List.set_cons_succ, if_true, ite_true, Nat.reduceAdd, Nat.reduceSub, List.replicate, Bool.false_eq_true, if_false, Bool.not_true, Bool.not_false, mp_ft, mp_tf, isTy, beq_self_eq_true, isi0, isi1, isi2, isi3, isi4, isi5, isi6, isi7, isi8, isi9, isi10, isi11, isi12, isi13, isi14, isi15, isi16, isi17, isi18, isi19, isi20, isi21, isi22, isi23, isi24, isi25, isi26, isi27, isi28, isi29, isi30, isi31, isi32, isi33, isi34, isi35, isi36, isi37, isi38, isi39, isi40, isi41, onlyF, dIx_tup, dIx_lst, dIx_ref, ixAt_0, ixAt_1, ixAt_2, ixAt_3, iEq_int, iNe_int, dAdd, iAdd, iSub, iNeg, iCmp, iLe, iLt, iGe, iGt, dMul, iMulT, iMul, iMod, iDiv, gIx, setIx, decide_true, decide_false, decide_eq_true_eq, Bool.not_eq_true, List.length_map, isMachine, isTupleOf, M__law_long, M__law_is_int, isBetween, hn]; done)
        rename_i ss
        by_cases hl : 1 ≤ ss.length ∧ ss.length ≤ 30
        · have hz : sizeOk ss.length = true := sizeOk_of (by omega)
          have h1 : (1:Int) ≤ (ss.length : Int) := by omega
          have h2 : (ss.length : Int) ≤ 30 := by omega
          have e0 : ∀ w, lcL (Src.fix (ss.map D.p)).ok (gSet 2) mYes (mCall M__law_row_fits (mCons (mVar 2) (mCons (mBin dIx (mVar 0) (mK (.int 0))) (mCons (mVar 1) mNil)))) [some (.p (.tuple [.int n, .tuple ss])), some (.p (.int ss.length)), none] (ss.map D.p) ⟨[], w⟩ = .ok (ss.map fun x => .p (.bool (isRow x n ss.length))) ⟨[], w⟩ := fun w => lc_map trivial fun x _ => by simp [pureRun, onlyP, fnM, mVar, mK, mBin, mUn, mTru, mTest, mAnd, mOr, mNot, mAndV, mOrV, mNotV, mIf, mNil, mCons, mTup, mLst, mLstF, mCall, mChain, mIsi, fIsi, tyD, tyP, mSlice, oNo, oSome, mSeq, srcOf, mRange1, mRange2, sNext, sSeq, sIf, sRet, sRetN, sExpr, sSet, sAsg, sAug, sFor, sRaise, gSet, gMore, gNone, Mp.gTup, mMeth, fAppend, fLen, fInt, truth, ptruth, asB, pp1, pp2, ret1, dIs, isN, allP, frzD, mFrz, Mp.R.bind, R.thn, RS.seq, List.map_cons, List.map_nil, List.cons_append, List.nil_append, List.length_cons, List.length_nil, List.getElem?_cons_zero, List.getElem?_cons_succ, List.getElem?_nil, List.set_cons_zero, List.set_cons_succ, if_true, ite_true, Nat.reduceAdd, Nat.reduceSub, List.replicate, Bool.false_eq_true, if_false, Bool.not_true, Bool.not_false, mp_ft, mp_tf, isTy, beq_self_eq_true, isi0, isi1, isi2, isi3, isi4, isi5, isi6, isi7, isi8, isi9, isi10, isi11, isi12, isi13, isi14, isi15, isi16, isi17, isi18, isi19, isi20, isi21, isi22, isi23, isi24, isi25, isi26, isi27, isi28, isi29, isi30, isi31, isi32, isi33, isi34, isi35, isi36, isi37, isi38, isi39, isi40, isi41, onlyF, dIx_tup, dIx_lst, dIx_ref, ixAt_0, ixAt_1, ixAt_2, ixAt_3, iEq_int, iNe_int, dAdd, iAdd, iSub, iNeg, iCmp, iLe, iLt, iGe, iGt, dMul, iMulT, iMul, iMod, iDiv, gIx, setIx, decide_true, decide_false, decide_eq_true_eq, Bool.not_eq_true, List.length_map, M__law_row_fits, hn]
          simp [b__law_machine_fits, pureRun, onlyP, fnM, mVar, mK, mBin, mUn, mTru, mTest, mAnd, mOr, mNot, mAndV, mOrV, mNotV, mIf, mNil, mCons, mTup, mLst, mLstF, mCall, mChain, mIsi, fIsi, tyD, tyP, mSlice, oNo, oSome, mSeq, srcOf, mRange1, mRange2, sNext, sSeq, sIf, sRet, sRetN, sExpr, sSet, sAsg, sAug, sFor, sRaise, gSet, gMore, gNone, Mp.gTup, mMeth, fAppend, fLen, fInt, truth, ptruth, asB, pp1, pp2, ret1, dIs, isN, allP, frzD, mFrz, Mp.R.bind, R.thn, RS.seq, List.map_cons, List.map_nil, List.cons_append, List.nil_append, List.length_cons, List.length_nil, List.getElem?_cons_zero, List.getElem?_cons_succ, List.getElem?_nil, List.set_cons_zero, List.set_cons_succ, if_true, ite_true, Nat.reduceAdd, Nat.reduceSub, List.replicate, Bool.false_eq_true, if_false, Bool.not_true, Bool.not_false, mp_ft, mp_tf, isTy, beq_self_eq_true, isi0, isi1, isi2, isi3, isi4, isi5, isi6, isi7, isi8, isi9, isi10, isi11, isi12, isi13, isi14, isi15, isi16, isi17, isi18, isi19, isi20, isi21, isi22, isi23, isi24, isi25, isi26, isi27, isi28, isi29, isi30, isi31, isi32, isi33, isi34, isi35, isi36, isi37, isi38, isi39, isi40, isi41, onlyF, dIx_tup, dIx_lst, dIx_ref, ixAt_0, ixAt_1, ixAt_2, ixAt_3, iEq_int, iNe_int, dAdd, iAdd, iSub, iNeg, iCmp, iLe, iLt, iGe, iGt, dMul, iMulT, iMul, iMod, iDiv, gIx, setIx, decide_true, decide_false, decide_eq_true_eq, Bool.not_eq_true, List.length_map, isMachine, isTupleOf, M__law_long, M__law_is_int, isBetween, hn, mLc, wipeE, Src.items, hz, e0, kFrz, fAll, lstP, -List.map_map, allP_map, allB_map, h1, h2, hl]
        · by_cases h1 : 1 ≤ ss.length
          · have h1' : (1:Int) ≤ (ss.length : Int) := by omega
            have h2' : ¬ ((ss.length : Int) ≤ 30) := by omega
            simp [b__law_machine_fits, pureRun, onlyP, fnM, mVar, mK, mBin, mUn, mTru, mTest, mAnd, mOr, mNot, mAndV, mOrV, mNotV, mIf, mNil, mCons, mTup, mLst, mLstF, mCall, mChain, mIsi, fIsi, tyD, tyP, mSlice, oNo, oSome, mSeq, srcOf, mRange1, mRange2, sNext, sSeq, sIf, sRet, sRetN, sExpr, sSet, sAsg, sAug, sFor, sRaise, gSet, gMore, gNone, Mp.gTup, mMeth, fAppend, fLen, fInt, truth, ptruth, asB, pp1, pp2, ret1, dIs, isN, allP, frzD, mFrz, Mp.R.bind, R.thn, RS.seq, List.map_cons, List.map_nil, List.cons_append, List.nil_append, List.length_cons, List.length_nil, List.getElem?_cons_zero, List.getElem?_cons_succ, List.getElem?_nil, List.set_cons_zero, List.set_cons_succ, if_true, ite_true, Nat.reduceAdd, Nat.reduceSub, List.replicate, Bool.false_eq_true, if_false, Bool.not_true, Bool.not_false, mp_ft, mp_tf, isTy, beq_self_eq_true, isi0, isi1, isi2, isi3, isi4, isi5, isi6, isi7, isi8, isi9, isi10, isi11, isi12, isi13, isi14, isi15, isi16, isi17, isi18, isi19, isi20, isi21, isi22, isi23, isi24, isi25, isi26, isi27, isi28, isi29, isi30, isi31, isi32, isi33, isi34, isi35, isi36, isi37, isi38, isi39, isi40, isi41, onlyF, dIx_tup, dIx_lst, dIx_ref, ixAt_0, ixAt_1, ixAt_2, ixAt_3, iEq_int, iNe_int, dAdd, iAdd, iSub, iNeg, iCmp, iLe, iLt, iGe, iGt, dMul, iMulT, iMul, iMod, iDiv, gIx, setIx, decide_true, decide_false, decide_eq_true_eq, Bool.not_eq_true, List.length_map, isMachine, isTupleOf, M__law_long, M__law_is_int, isBetween, hn, h1', h2', hl]
          · have h1' : ¬ ((1:Int) ≤ (ss.length : Int)) := by omega
            simp [b__law_machine_fits, pureRun, onlyP, fnM, mVar, mK, mBin, mUn, mTru, mTest, mAnd, mOr, mNot, mAndV, mOrV, mNotV, mIf, mNil, mCons, mTup, mLst, mLstF, mCall, mChain, mIsi, fIsi, tyD, tyP, mSlice, oNo, oSome, mSeq, srcOf, mRange1, mRange2, sNext, sSeq, sIf, sRet, sRetN, sExpr, sSet, sAsg, sAug, sFor, sRaise, gSet, gMore, gNone, Mp.gTup, mMeth, fAppend, fLen, fInt, truth, ptruth, asB, pp1, pp2, ret1, dIs, isN, allP, frzD, mFrz, Mp.R.bind, R.thn, RS.seq, List.map_cons, List.map_nil, List.cons_append, List.nil_append, List.length_cons, List.length_nil, List.getElem?_cons_zero, List.getElem?_cons_succ, List.getElem?_nil, List.set_cons_zero, List.set_cons_succ, if_true, ite_true, Nat.reduceAdd, Nat.reduceSub, List.replicate, Bool.false_eq_true, if_false, Bool.not_true, Bool.not_false, mp_ft, mp_tf, isTy, beq_self_eq_true, isi0, isi1, isi2, isi3, isi4, isi5, isi6, isi7, isi8, isi9, isi10, isi11, isi12, isi13, isi14, isi15, isi16, isi17, isi18, isi19, isi20, isi21, isi22, isi23, isi24, isi25, isi26, isi27, isi28, isi29, isi30, isi31, isi32, isi33, isi34, isi35, isi36, isi37, isi38, isi39, isi40, isi41, onlyF, dIx_tup, dIx_lst, dIx_ref, ixAt_0, ixAt_1, ixAt_2, ixAt_3, iEq_int, iNe_int, dAdd, iAdd, iSub, iNeg, iCmp, iLe, iLt, iGe, iGt, dMul, iMulT, iMul, iMod, iDiv, gIx, setIx, decide_true, decide_false, decide_eq_true_eq, Bool.not_eq_true, List.length_map, isMachine, isTupleOf, M__law_long, M__law_is_int, isBetween, hn, h1', hl]
      · have hn' : n < 1 ∨ 8 < n := by omega
        cases b <;> simp [b__law_machine_fits, pureRun, onlyP, fnM, mVar, mK, mBin, mUn, mTru, mTest, mAnd, mOr, mNot, mAndV, mOrV, mNotV, mIf, mNil, mCons, mTup, mLst, mLstF, mCall, mChain, mIsi, fIsi, tyD, tyP, mSlice, oNo, oSome, mSeq, srcOf, mRange1, mRange2, sNext, sSeq, sIf, sRet, sRetN, sExpr, sSet, sAsg, sAug, sFor, sRaise, gSet, gMore, gNone, Mp.gTup, mMeth, fAppend, fLen, fInt, truth, ptruth, asB, pp1, pp2, ret1, dIs, isN, allP, frzD, mFrz, Mp.R.bind, R.thn, RS.seq, List.map_cons, List.map_nil, List.cons_append, List.nil_append, List.length_cons, List.length_nil, List.getElem?_cons_zero, List.getElem?_cons_succ, List.getElem?_nil, List.set_cons_zero, List.set_cons_succ, if_true, ite_true, Nat.reduceAdd, Nat.reduceSub, List.replicate, Bool.false_eq_true, if_false, Bool.not_true, Bool.not_false, mp_ft, mp_tf, isTy, beq_self_eq_true, isi0, isi1, isi2, isi3, isi4, isi5, isi6, isi7, isi8, isi9, isi10, isi11, isi12, isi13, isi14, isi15, isi16, isi17, isi18, isi19, isi20, isi21, isi22, isi23, isi24, isi25, isi26, isi27, isi28, isi29, isi30, isi31, isi32, isi33, isi34, isi35, isi36, isi37, isi38, isi39, isi40, isi41, onlyF, dIx_tup, dIx_lst, dIx_ref, ixAt_0, ixAt_1, ixAt_2, ixAt_3, iEq_int, iNe_int, dAdd, iAdd, iSub, iNeg, iCmp, iLe, iLt, iGe, iGt, dMul, iMulT, iMul, iMod, iDiv, gIx, setIx, decide_true, decide_false, decide_eq_true_eq, Bool.not_eq_true, List.length_map, isMachine, isTupleOf, M__law_long, M__law_is_int, isBetween, hn']
        omega
    · have : ¬ ((r.length : Int) + 1 + 1 + 1 = 2) := by omega
      simp [b__law_machine_fits, pureRun, onlyP, fnM, mVar, mK, mBin, mUn, mTru, mTest, mAnd, mOr, mNot, mAndV, mOrV, mNotV, mIf, mNil, mCons, mTup, mLst, mLstF, mCall, mChain, mIsi, fIsi, tyD, tyP, mSlice, oNo, oSome, mSeq, srcOf, mRange1, mRange2, sNext, sSeq, sIf, sRet, sRetN, sExpr, sSet, sAsg, sAug, sFor, sRaise, gSet, gMore, gNone, Mp.gTup, mMeth, fAppend, fLen, fInt, truth, ptruth, asB, pp1, pp2, ret1, dIs, isN, allP, frzD, mFrz, Mp.R.bind, R.thn, RS.seq, List.map_cons, List.map_nil, List.cons_append, List.nil_append, List.length_cons, List.length_nil, List.getElem?_cons_zero, List.getElem?_cons_succ, List.getElem?_nil, List.set_cons_zero, List.set_cons_succ, if_true, ite_true, Nat.reduceAdd, Nat.reduceSub, List.replicate, Bool.false_eq_true, if_false, Bool.not_true, Bool.not_false, mp_ft, mp_tf, isTy, beq_self_eq_true, isi0, isi1, isi2, isi3, isi4, isi5, isi6, isi7, isi8, isi9, isi10, isi11, isi12, isi13, isi14, isi15, isi16, isi17, isi18, isi19, isi20, isi21, isi22, isi23, isi24, isi25, isi26, isi27, isi28, isi29, isi30, isi31, isi32, isi33, isi34, isi35, isi36, isi37, isi38, isi39, isi40, isi41, onlyF, dIx_tup, dIx_lst, dIx_ref, ixAt_0, ixAt_1, ixAt_2, ixAt_3, iEq_int, iNe_int, dAdd, iAdd, iSub, iNeg, iCmp, iLe, iLt, iGe, iGt, dMul, iMulT, iMul, iMod, iDiv, gIx, setIx, decide_true, decide_false, decide_eq_true_eq, Bool.not_eq_true, List.length_map, isMachine, isTupleOf, M__law_long, this]
  · exact .inr rfl

/-! _law_text_fits -/
theorem sc__law_text_fits : FnScope ["_law_size", "_law_thing", "_law_letter"] ["_law_size", "_law_thing"] (defScope t__law_text_fits) := ⟨rfl, rfl, rfl, by decide +kernel, rfl, by decide +kernel, by decide +kernel⟩
theorem bn__law_text_fits : BindN "_law_text_fits" t__law_text_fits ["_law_size", "_law_thing"] := fun _ _ _ _ _ _ us hl => match us, hl with | [_, _], _ => rfl
noncomputable def b__law_text_fits : MS := (sRet (mAndV (mIsi "tuple" (mVar 1)) (mCall fAll (mCons (mLc (mSeq (mVar 1)) [2] (gSet 2) mYes (mCall M__law_is_int (mCons (mVar 2) (mCons (mK (.int 0)) (mCons (mBin (pp2 iSub) (mVar 0) (mK (.int 1))) mNil)))) kFrz) mNil))))
theorem raw__law_text_fits (N : Nm K mg) : DefOk P w K mg base "_law_text_fits" 2 2 (fnM 2 3 b__law_text_fits) := def_mk N.d__law_text_fits sc__law_text_fits bn__law_text_fits rfl rfl fun f cdv A outer s H E hr nd tk hp => (ss_one (s_ret (e_and (e_isi (T := "tuple") (by decide) rfl N.f_isinstance rfl N.f_tuple bt_tuple (e_var (i := 1))) (e_one (e_bi (b_all rfl) rfl N.f_all bt_all (a_cons (e_lcF (own := [("_law_letter", 2)]) rfl nd (i_seq (e_var (i := 1))) (blkOk_by (N := ["_law_size", "_law_thing", "_law_letter"]) (sc := defScope t__law_text_fits) (own := [("_law_letter", 2)]) (by decide +kernel)) (tg_name (i := 2) (by decide)) (fun _ _ _ _ _ => pg_name (i := 2) nd rfl (by first | exact Or.inl rfl | exact Or.inr rfl)) (fun _ _ _ _ _ => c_no) (fun _ _ _ _ _ => (e_callS (ok__law_is_int N) hr (by decide) takes0 (a_cons (e_var (i := 2)) (a_cons e_int (a_cons (e_bin o_sub (e_var (i := 0)) e_int) a_nil))) (argN_cons (argN_cons (argN_cons argN_nil)))))) a_nil))))))
def M__law_text_fits : List D → S → R D := fun ds s => match ds with
  | [.p (.int n), .p x] => if smallT x then .ok (.p (.bool (isText n x))) s else .bad
  | _ => .bad
theorem ok__law_text_fits (N : Nm K mg) : DefOk P w K mg base "_law_text_fits" 2 2 M__law_text_fits := (raw__law_text_fits N).alone.eqv fun ds s => by
  unfold M__law_text_fits
  split
  · rename_i n x
    split
    · rename_i hz
      left
      cases x <;> try rfl
      rename_i ps
      have e0 : ∀ env w, lcL (Src.fix (ps.map D.p)).ok (gSet 2) mYes (mCall M__law_is_int (mCons (mVar 2) (mCons (mK (.int 0)) (mCons (mBin (pp2 iSub) (mVar 0) (mK (.int 1))) mNil)))) [some (.p (.int n)), env, none] (ps.map D.p) ⟨[], w⟩ = .ok (ps.map fun x => .p (.bool (isIndex x n))) ⟨[], w⟩ := fun env w => lc_map trivial fun x _ => by simp [pureRun, onlyP, fnM, mVar, mK, mBin, mUn, mTru, mTest, mAnd, mOr, mNot, mAndV, mOrV, mNotV, mIf, mNil, mCons, mTup, mLst, mLstF, mCall, mChain, mIsi, fIsi, tyD, tyP, mSlice, oNo, oSome, mSeq, srcOf, mRange1, mRange2, sNext, sSeq, sIf, sRet, sRetN, sExpr, sSet, sAsg, sAug, sFor, sRaise, gSet, gMore, gNone, Mp.gTup, mMeth, fAppend, fLen, fInt, truth, ptruth, asB, pp1, pp2, ret1, dIs, isN, allP, frzD, mFrz, Mp.R.bind, R.thn, RS.seq, List.map_cons, List.map_nil, List.cons_append, List.nil_append, List.length_cons, List.length_nil, List.getElem?_cons_zero, List.getElem?_cons_succ, List.getElem?_nil, List.set_cons_zero, List.set_cons_succ, if_true, ite_true, Nat.reduceAdd, Nat.reduceSub, List.replicate, Bool.false_eq_true, if_false, Bool.not_true, Bool.not_false, mp_ft, mp_tf, isTy, beq_self_eq_true, isi0, isi1, isi2, isi3, isi4, isi5, isi6, isi7, isi8, isi9, isi10, isi11, isi12, isi13, isi14, isi15, isi16, isi17, isi18, isi19, isi20, isi21, isi22, isi23, isi24, isi25, isi26, isi27, isi28, isi29, isi30, isi31, isi32, isi33, isi34, isi35, isi36, isi37, isi38, isi39, isi40, isi41, onlyF, dIx_tup, dIx_lst, dIx_ref, ixAt_0, ixAt_1, ixAt_2, ixAt_3, iEq_int, iNe_int, dAdd, iAdd, iSub, iNeg, iCmp, iLe, iLt, iGe, iGt, dMul, iMulT, iMul, iMod, iDiv, gIx, setIx, decide_true, decide_false, decide_eq_true_eq, Bool.not_eq_true, List.length_map, M__law_is_int, isIndex]
      have hz' : sizeOk ps.length = true := hz
      simp [b__law_text_fits, pureRun, onlyP, fnM, mVar, mK, mBin, mUn, mTru, mTest, mAnd, mOr, mNot, mAndV, mOrV, mNotV, mIf, mNil, mCons, mTup, mLst, mLstF, mCall, mChain, mIsi, fIsi, tyD, tyP, mSlice, oNo, oSome, mSeq, srcOf, mRange1, mRange2, sNext, sSeq, sIf, sRet, sRetN, sExpr, sSet, sAsg, sAug, sFor, sRaise, gSet, gMore, gNone, Mp.gTup, mMeth, fAppend, fLen, fInt, truth, ptruth, asB, pp1, pp2, ret1, dIs, isN, allP, frzD, mFrz, Mp.R.bind, R.thn, RS.seq, List.map_cons, List.map_nil, List.cons_append, List.nil_append, List.length_cons, List.length_nil, List.getElem?_cons_zero, List.getElem?_cons_succ, List.getElem?_nil, List.set_cons_zero, List.set_cons_succ, if_true, ite_true, Nat.reduceAdd, Nat.reduceSub, List.replicate, Bool.false_eq_true, if_false, Bool.not_true, Bool.not_false, mp_ft, mp_tf, isTy, beq_self_eq_true, isi0, isi1, isi2, isi3, isi4, isi5, isi6, isi7, isi8, isi9, isi10, isi11, isi12, isi13, isi14, isi15, isi16, isi17, isi18, isi19, isi20, isi21, isi22, isi23, isi24, isi25, isi26, isi27, isi28, isi29, isi30, isi31, isi32, isi33, isi34, isi35, isi36, isi37, isi38, isi39, isi40, isi41, onlyF, dIx_tup, dIx_lst, dIx_ref, ixAt_0, ixAt_1, ixAt_2, ixAt_3, iEq_int, iNe_int, dAdd, iAdd, iSub, iNeg, iCmp, iLe, iLt, iGe, iGt, dMul, iMulT, iMul, iMod, iDiv, gIx, setIx, decide_true, decide_false, decide_eq_true_eq, Bool.not_eq_true, List.length_map, mLc, wipeE, Src.items, hz', e0, kFrz, fAll, lstP, isText, -List.map_map, allP_map, allB_map]
    · exact .inr rfl
  · exact .inr rfl

/-! _law_read -/
theorem sc__law_read : FnScope ["_law_machine_here", "_law_text_here", "_law_state", "_law_more_here", "_law_letter", "_law_step_here"] ["_law_machine_here", "_law_text_here"] (defScope t__law_read) := ⟨rfl, rfl, rfl, by decide +kernel, rfl, by decide +kernel, by decide +kernel⟩
theorem bn__law_read : BindN "_law_read" t__law_read ["_law_machine_here", "_law_text_here"] := fun _ _ _ _ _ _ us hl => match us, hl with | [_, _], _ => rfl
noncomputable def b__law_read : MS := (sSeq (sSet 2 (mK (.int 0))) (sSeq (sSet 3 (mK (.int 0))) (sSeq (sFor (mSeq (mVar 1)) (gSet 4) (sSeq (sSet 5 (mBin dIx (mBin dIx (mBin dIx (mBin dIx (mVar 0) (mK (.int 1))) (mVar 2)) (mK (.int 1))) (mVar 4))) (sSeq (sIf (mTest (mBin (dIs true) (mVar 5) (mK .none))) (sRet (mTup (mCons (mVar 3) (mCons (mK .none) mNil)))) sNext) (sSeq (sSet 3 (mBin dAdd (mVar 3) (mBin dIx (mVar 5) (mK (.int 0))))) (sSet 2 (mBin dIx (mVar 5) (mK (.int 1)))))))) (sRet (mTup (mCons (mVar 3) (mCons (mVar 2) mNil)))))))
theorem raw__law_read (N : Nm K mg) : DefOk P w K mg base "_law_read" 1 2 (fnM 2 6 b__law_read) := def_mk N.d__law_read sc__law_read bn__law_read rfl rfl fun f cdv A outer s H E hr nd tk hp => (ss_cons (s_set (i := 2) nd e_int) (ss_cons (s_set (i := 3) nd e_int) (ss_cons (s_for hp rfl (i_seq (e_var (i := 1))) (g_name (i := 4) nd) (ss_cons (s_set (i := 5) nd (e_ix (e_ix (e_ix (e_ix (e_var (i := 0)) e_int) (e_var (i := 2))) e_int) (e_var (i := 4)))) (ss_cons (s_if (t_cmp o_is (e_var (i := 5)) e_none (nomark _)) (ss_one (s_ret (e_tup (a_cons (e_var (i := 3)) (a_cons e_none a_nil))))) ss_nil) (ss_cons (s_set (i := 3) nd (e_bin o_add (e_var (i := 3)) (e_ix (e_var (i := 5)) e_int))) (ss_one (s_set (i := 2) nd (e_ix (e_var (i := 5)) e_int))))))) (ss_one (s_ret (e_tup (a_cons (e_var (i := 3)) (a_cons (e_var (i := 2)) a_nil))))))))
noncomputable def M__law_read : List D → S → R D := pureRun (fnM 2 6 b__law_read)
theorem ok__law_read (N : Nm K mg) : DefOk P w K mg base "_law_read" 1 2 M__law_read := (raw__law_read N).alone
theorem read_eq {m : Mac} (hm : m.Ok) {t : List Nat} (ht : TxOk m.n t) {s : S} : M__law_read [.p (eM m), .p (eT t)] s = .ok (.p (eRead (m.read 0 0 t))) s := by
  refine pure_eq rfl ?_
  have z2 : Mp.sizeOk 2 = true := by decide
  simp only [b__law_read, mVar, mK, mBin, mUn, mTru, mTest, mAnd, mOr, mNot, mAndV, mOrV, mNotV, mIf, mNil, mCons, mTup, mLst, mLstF, mCall, mChain, mIsi, fIsi, tyD, tyP, mSlice, oNo, oSome, mSeq, srcOf, mRange1, mRange2, sNext, sSeq, sIf, sRet, sRetN, sExpr, sSet, sAsg, sAug, sFor, sRaise, gSet, gMore, gNone, Mp.gTup, mMeth, fAppend, fLen, fInt, truth, ptruth, asB, pp1, pp2, ret1, dIs, isN, allP, frzD, mFrz, List.map_cons, List.map_nil, List.cons_append, List.nil_append, List.length_cons, List.length_nil, List.getElem?_cons_zero, List.getElem?_cons_succ, List.getElem?_nil, List.set_cons_zero, List.set_cons_succ, if_true, ite_true, Nat.reduceAdd, Nat.reduceSub, List.replicate, Bool.false_eq_true, if_false, Bool.not_true, Bool.not_false, mp_ft, mp_tf, isTy, beq_self_eq_true, isi0, isi1, isi2, isi3, isi4, isi5, isi6, isi7, isi8, isi9, isi10, isi11, isi12, isi13, isi14, isi15, isi16, isi17, isi18, isi19, isi20, isi21, isi22, isi23, isi24, isi25, isi26, isi27, isi28, isi29, isi30, isi31, isi32, isi33, isi34, isi35, isi36, isi37, isi38, isi39, isi40, isi41, onlyF, dIx_tup, dIx_lst, dIx_ref, ixAt_0, ixAt_1, ixAt_2, ixAt_3, iEq_int, iNe_int, dAdd, iAdd, iSub, iNeg, iCmp, iLe, iLt, iGe, iGt, dMul, iMulT, iMul, iMod, iDiv, gIx, setIx, decide_true, decide_false, decide_eq_true_eq, Bool.not_eq_true, List.length_map, gets_ok, gets_bind, gets_ite, rsw_ite, rsw_seq, rsw_thn, rsw_nx, rsw_ret, rst_x, rsx_seq, rsx_nx, rsx_ret, rsx_brk, rsx_cont, rsx_ite, rsx_thn, gets_fnM, onlyP, Option.map_some, Src.items, z2, Src.items, Src.ok, eT, map_map]
  refine for_gets (J := fun xs e s' => ∃ (t1 : List Nat) (q f : Nat) (e4 e5 : Option D), xs = t1.map (fun c => D.p (eN c)) ∧ TxOk m.n t1 ∧ q < m.rs.length ∧ m.read 0 0 t = m.read q f t1 ∧ s' = ⟨[], s.w⟩ ∧ e = [some (.p (eM m)), some (.p (.tuple (t.map eN))), some (.p (.int q)), some (.p (.int f)), e4, e5]) (fun _ _ _ _ => trivial) ?_ ?_ _ _ _ ?_
  · rintro x xs e s' ⟨t1, q, f, e4, e5, hx, ht1, hq, hr, rfl, rfl⟩
    cases t1 with
    | nil => cases hx
    | cons c t1 =>
      cases hx
      have hc : c < (m.row q).ss.length := by rw [(hm.row hq).len]; exact ht1 c List.mem_cons_self
      simp only [mVar, mK, mBin, mUn, mTru, mTest, mAnd, mOr, mNot, mAndV, mOrV, mNotV, mIf, mNil, mCons, mTup, mLst, mLstF, mCall, mChain, mIsi, fIsi, tyD, tyP, mSlice, oNo, oSome, mSeq, srcOf, mRange1, mRange2, sNext, sSeq, sIf, sRet, sRetN, sExpr, sSet, sAsg, sAug, sFor, sRaise, gSet, gMore, gNone, Mp.gTup, mMeth, fAppend, fLen, fInt, truth, ptruth, asB, pp1, pp2, ret1, dIs, isN, allP, frzD, mFrz, List.map_cons, List.map_nil, List.cons_append, List.nil_append, List.length_cons, List.length_nil, List.getElem?_cons_zero, List.getElem?_cons_succ, List.getElem?_nil, List.set_cons_zero, List.set_cons_succ, if_true, ite_true, Nat.reduceAdd, Nat.reduceSub, List.replicate, Bool.false_eq_true, if_false, Bool.not_true, Bool.not_false, mp_ft, mp_tf, isTy, beq_self_eq_true, isi0, isi1, isi2, isi3, isi4, isi5, isi6, isi7, isi8, isi9, isi10, isi11, isi12, isi13, isi14, isi15, isi16, isi17, isi18, isi19, isi20, isi21, isi22, isi23, isi24, isi25, isi26, isi27, isi28, isi29, isi30, isi31, isi32, isi33, isi34, isi35, isi36, isi37, isi38, isi39, isi40, isi41, onlyF, dIx_tup, dIx_lst, dIx_ref, ixAt_0, ixAt_1, ixAt_2, ixAt_3, iEq_int, iNe_int, dAdd, iAdd, iSub, iNeg, iCmp, iLe, iLt, iGe, iGt, dMul, iMulT, iMul, iMod, iDiv, gIx, setIx, decide_true, decide_false, decide_eq_true_eq, Bool.not_eq_true, List.length_map, gets_ok, gets_bind, gets_ite, rsw_ite, rsw_seq, rsw_thn, rsw_nx, rsw_ret, rst_x, rsx_seq, rsx_nx, rsx_ret, rsx_brk, rsx_cont, rsx_ite, rsx_thn, gets_fnM, onlyP, Option.map_some, Src.items, ix_M1, ix_rs hq, ix_R1, eN, ix_ss hc]
      cases hst : (m.row q).st c with
      | none =>
        simp [mVar, mK, mBin, mUn, mTru, mTest, mAnd, mOr, mNot, mAndV, mOrV, mNotV, mIf, mNil, mCons, mTup, mLst, mLstF, mCall, mChain, mIsi, fIsi, tyD, tyP, mSlice, oNo, oSome, mSeq, srcOf, mRange1, mRange2, sNext, sSeq, sIf, sRet, sRetN, sExpr, sSet, sAsg, sAug, sFor, sRaise, gSet, gMore, gNone, Mp.gTup, mMeth, fAppend, fLen, fInt, truth, ptruth, asB, pp1, pp2, ret1, dIs, isN, allP, frzD, mFrz, List.map_cons, List.map_nil, List.cons_append, List.nil_append, List.length_cons, List.length_nil, List.getElem?_cons_zero, List.getElem?_cons_succ, List.getElem?_nil, List.set_cons_zero, List.set_cons_succ, if_true, ite_true, Nat.reduceAdd, Nat.reduceSub, List.replicate, Bool.false_eq_true, if_false, Bool.not_true, Bool.not_false, mp_ft, mp_tf, isTy, beq_self_eq_true, isi0, isi1, isi2, isi3, isi4, isi5, isi6, isi7, isi8, isi9, isi10, isi11, isi12, isi13, isi14, isi15, isi16, isi17, isi18, isi19, isi20, isi21, isi22, isi23, isi24, isi25, isi26, isi27, isi28, isi29, isi30, isi31, isi32, isi33, isi34, isi35, isi36, isi37, isi38, isi39, isi40, isi41, onlyF, dIx_tup, dIx_lst, dIx_ref, ixAt_0, ixAt_1, ixAt_2, ixAt_3, iEq_int, iNe_int, dAdd, iAdd, iSub, iNeg, iCmp, iLe, iLt, iGe, iGt, dMul, iMulT, iMul, iMod, iDiv, gIx, setIx, decide_true, decide_false, decide_eq_true_eq, Bool.not_eq_true, List.length_map, gets_ok, gets_bind, gets_ite, rsw_ite, rsw_seq, rsw_thn, rsw_nx, rsw_ret, rst_x, rsx_seq, rsx_nx, rsx_ret, rsx_brk, rsx_cont, rsx_ite, rsx_thn, gets_fnM, onlyP, Option.map_some, Src.items, eS, hr, Mac.read, hst, eRead, eO, z2]
      | some p =>
        have hp := hm.st hq (ht1 c List.mem_cons_self) p hst
        simp only [mVar, mK, mBin, mUn, mTru, mTest, mAnd, mOr, mNot, mAndV, mOrV, mNotV, mIf, mNil, mCons, mTup, mLst, mLstF, mCall, mChain, mIsi, fIsi, tyD, tyP, mSlice, oNo, oSome, mSeq, srcOf, mRange1, mRange2, sNext, sSeq, sIf, sRet, sRetN, sExpr, sSet, sAsg, sAug, sFor, sRaise, gSet, gMore, gNone, Mp.gTup, mMeth, fAppend, fLen, fInt, truth, ptruth, asB, pp1, pp2, ret1, dIs, isN, allP, frzD, mFrz, List.map_cons, List.map_nil, List.cons_append, List.nil_append, List.length_cons, List.length_nil, List.getElem?_cons_zero, List.getElem?_cons_succ, List.getElem?_nil, List.set_cons_zero, List.set_cons_succ, if_true, ite_true, Nat.reduceAdd, Nat.reduceSub, List.replicate, Bool.false_eq_true, if_false, Bool.not_true, Bool.not_false, mp_ft, mp_tf, isTy, beq_self_eq_true, isi0, isi1, isi2, isi3, isi4, isi5, isi6, isi7, isi8, isi9, isi10, isi11, isi12, isi13, isi14, isi15, isi16, isi17, isi18, isi19, isi20, isi21, isi22, isi23, isi24, isi25, isi26, isi27, isi28, isi29, isi30, isi31, isi32, isi33, isi34, isi35, isi36, isi37, isi38, isi39, isi40, isi41, onlyF, dIx_tup, dIx_lst, dIx_ref, ixAt_0, ixAt_1, ixAt_2, ixAt_3, iEq_int, iNe_int, dAdd, iAdd, iSub, iNeg, iCmp, iLe, iLt, iGe, iGt, dMul, iMulT, iMul, iMod, iDiv, gIx, setIx, decide_true, decide_false, decide_eq_true_eq, Bool.not_eq_true, List.length_map, gets_ok, gets_bind, gets_ite, rsw_ite, rsw_seq, rsw_thn, rsw_nx, rsw_ret, rst_x, rsx_seq, rsx_nx, rsx_ret, rsx_brk, rsx_cont, rsx_ite, rsx_thn, gets_fnM, onlyP, Option.map_some, Src.items, ix_S0, ix_S1]
        simp only [eS, mVar, mK, mBin, mUn, mTru, mTest, mAnd, mOr, mNot, mAndV, mOrV, mNotV, mIf, mNil, mCons, mTup, mLst, mLstF, mCall, mChain, mIsi, fIsi, tyD, tyP, mSlice, oNo, oSome, mSeq, srcOf, mRange1, mRange2, sNext, sSeq, sIf, sRet, sRetN, sExpr, sSet, sAsg, sAug, sFor, sRaise, gSet, gMore, gNone, Mp.gTup, mMeth, fAppend, fLen, fInt, truth, ptruth, asB, pp1, pp2, ret1, dIs, isN, allP, frzD, mFrz, List.map_cons, List.map_nil, List.cons_append, List.nil_append, List.length_cons, List.length_nil, List.getElem?_cons_zero, List.getElem?_cons_succ, List.getElem?_nil, List.set_cons_zero, List.set_cons_succ, if_true, ite_true, Nat.reduceAdd, Nat.reduceSub, List.replicate, Bool.false_eq_true, if_false, Bool.not_true, Bool.not_false, mp_ft, mp_tf, isTy, beq_self_eq_true, isi0, isi1, isi2, isi3, isi4, isi5, isi6, isi7, isi8, isi9, isi10, isi11, isi12, isi13, isi14, isi15, isi16, isi17, isi18, isi19, isi20, isi21, isi22, isi23, isi24, isi25, isi26, isi27, isi28, isi29, isi30, isi31, isi32, isi33, isi34, isi35, isi36, isi37, isi38, isi39, isi40, isi41, onlyF, dIx_tup, dIx_lst, dIx_ref, ixAt_0, ixAt_1, ixAt_2, ixAt_3, iEq_int, iNe_int, dAdd, iAdd, iSub, iNeg, iCmp, iLe, iLt, iGe, iGt, dMul, iMulT, iMul, iMod, iDiv, gIx, setIx, decide_true, decide_false, decide_eq_true_eq, Bool.not_eq_true, List.length_map, gets_ok, gets_bind, gets_ite, rsw_ite, rsw_seq, rsw_thn, rsw_nx, rsw_ret, rst_x, rsx_seq, rsx_nx, rsx_ret, rsx_brk, rsx_cont, rsx_ite, rsx_thn, gets_fnM, onlyP, Option.map_some, Src.items]
        refine ⟨t1, p.2, f + p.1, some (.p (.int c)), some (.p (eS (some p))), rfl, fun y hy => ht1 y (List.mem_cons_of_mem _ hy), hp.2, ?_, by simp [eS]⟩
        rw [hr, Mac.read, hst]
  · rintro e s' ⟨t1, q, f, e4, e5, hx, ht1, hq, hr, rfl, rfl⟩
    cases t1 with
    | cons c t1 => cases hx
    | nil => simp [mVar, mK, mBin, mUn, mTru, mTest, mAnd, mOr, mNot, mAndV, mOrV, mNotV, mIf, mNil, mCons, mTup, mLst, mLstF, mCall, mChain, mIsi, fIsi, tyD, tyP, mSlice, oNo, oSome, mSeq, srcOf, mRange1, mRange2, sNext, sSeq, sIf, sRet, sRetN, sExpr, sSet, sAsg, sAug, sFor, sRaise, gSet, gMore, gNone, Mp.gTup, mMeth, fAppend, fLen, fInt, truth, ptruth, asB, pp1, pp2, ret1, dIs, isN, allP, frzD, mFrz, List.map_cons, List.map_nil, List.cons_append, List.nil_append, List.length_cons, List.length_nil, List.getElem?_cons_zero, List.getElem?_cons_succ, List.getElem?_nil, List.set_cons_zero, List.set_cons_succ, if_true, ite_true, Nat.reduceAdd, Nat.reduceSub, List.replicate, Bool.false_eq_true, if_false, Bool.not_true, Bool.not_false, mp_ft, mp_tf, isTy, beq_self_eq_true, isi0, isi1, isi2, isi3, isi4, isi5, isi6, isi7, isi8, isi9, isi10, isi11, isi12, isi13, isi14, isi15, isi16, isi17, isi18, isi19, isi20, isi21, isi22, isi23, isi24, isi25, isi26, isi27, isi28, isi29, isi30, isi31, isi32, isi33, isi34, isi35, isi36, isi37, isi38, isi39, isi40, isi41, onlyF, dIx_tup, dIx_lst, dIx_ref, ixAt_0, ixAt_1, ixAt_2, ixAt_3, iEq_int, iNe_int, dAdd, iAdd, iSub, iNeg, iCmp, iLe, iLt, iGe, iGt, dMul, iMulT, iMul, iMod, iDiv, gIx, setIx, decide_true, decide_false, decide_eq_true_eq, Bool.not_eq_true, List.length_map, gets_ok, gets_bind, gets_ite, rsw_ite, rsw_seq, rsw_thn, rsw_nx, rsw_ret, rst_x, rsx_seq, rsx_nx, rsx_ret, rsx_brk, rsx_cont, rsx_ite, rsx_thn, gets_fnM, onlyP, Option.map_some, Src.items, hr, Mac.read, eRead, eO, z2]
  · exact ⟨t, 0, 0, none, none, rfl, ht, by have := hm.r1; omega, rfl, rfl, rfl⟩

/-! _law_due -/
theorem sc__law_due : FnScope ["_law_machine_here", "_law_text_here", "_law_more_here", "_law_state"] ["_law_machine_here", "_law_text_here"] (defScope t__law_due) := ⟨rfl, rfl, rfl, by decide +kernel, rfl, by decide +kernel, by decide +kernel⟩
theorem bn__law_due : BindN "_law_due" t__law_due ["_law_machine_here", "_law_text_here"] := fun _ _ _ _ _ _ us hl => match us, hl with | [_, _], _ => rfl
noncomputable def b__law_due : MS := (sSeq (sAsg (mCall M__law_read (mCons (mVar 0) (mCons (mVar 1) mNil))) (gTup 2 (gMore (gSet 2) (gMore (gSet 3) gNone)))) (sSeq (sIf (mOr (mTest (mBin (dIs true) (mVar 3) (mK .none))) (mTest (mBin (dIs true) (mBin dIx (mBin dIx (mBin dIx (mVar 0) (mK (.int 1))) (mVar 3)) (mK (.int 0))) (mK .none)))) (sRet (mK .none)) sNext) (sRet (mBin dAdd (mVar 2) (mBin dIx (mBin dIx (mBin dIx (mVar 0) (mK (.int 1))) (mVar 3)) (mK (.int 0)))))))
theorem raw__law_due (N : Nm K mg) : DefOk P w K mg base "_law_due" 2 2 (fnM 2 4 b__law_due) := def_mk N.d__law_due sc__law_due bn__law_due rfl rfl fun f cdv A outer s H E hr nd tk hp => (ss_cons (s_asg (e_callS (ok__law_read N) hr (by decide) tk (a_cons (e_var (i := 0)) (a_cons (e_var (i := 1)) a_nil)) (argN_cons (argN_cons argN_nil))) (g_tup rfl (gs_cons (g_name (i := 2) nd) (gs_cons (g_name (i := 3) nd) gs_nil QuietG.none) (QuietG.more Quiet1.set QuietG.none)))) (ss_cons (s_if (t_w (w_or (t_cmp o_is (e_var (i := 3)) e_none (nomark _)) (w_or1 (t_cmp o_is (e_ix (e_ix (e_ix (e_var (i := 0)) e_int) (e_var (i := 3))) e_int) e_none (nomark _))))) (ss_one (s_ret e_none)) ss_nil) (ss_one (s_ret (e_bin o_add (e_var (i := 2)) (e_ix (e_ix (e_ix (e_var (i := 0)) e_int) (e_var (i := 3))) e_int))))))
noncomputable def M__law_due : List D → S → R D := pureRun (fnM 2 4 b__law_due)
theorem ok__law_due (N : Nm K mg) : DefOk P w K mg base "_law_due" 2 2 M__law_due := (raw__law_due N).alone
theorem due_eq {m : Mac} (hm : m.Ok) {t : List Nat} (ht : TxOk m.n t) {s : S} : M__law_due [.p (eM m), .p (eT t)] s = .ok (.p (eO (m.len t))) s := by
  refine pure_eq rfl ?_
  simp only [b__law_due, mVar, mK, mBin, mUn, mTru, mTest, mAnd, mOr, mNot, mAndV, mOrV, mNotV, mIf, mNil, mCons, mTup, mLst, mLstF, mCall, mChain, mIsi, fIsi, tyD, tyP, mSlice, oNo, oSome, mSeq, srcOf, mRange1, mRange2, sNext, sSeq, sIf, sRet, sRetN, sExpr, sSet, sAsg, sAug, sFor, sRaise, gSet, gMore, gNone, Mp.gTup, mMeth, fAppend, fLen, fInt, truth, ptruth, asB, pp1, pp2, ret1, dIs, isN, allP, frzD, mFrz, List.map_cons, List.map_nil, List.cons_append, List.nil_append, List.length_cons, List.length_nil, List.getElem?_cons_zero, List.getElem?_cons_succ, List.getElem?_nil, List.set_cons_zero, List.set_cons_succ, if_true, ite_true, Nat.reduceAdd, Nat.reduceSub, List.replicate, Bool.false_eq_true, if_false, Bool.not_true, Bool.not_false, mp_ft, mp_tf, isTy, beq_self_eq_true, isi0, isi1, isi2, isi3, isi4, isi5, isi6, isi7, isi8, isi9, isi10, isi11, isi12, isi13, isi14, isi15, isi16, isi17, isi18, isi19, isi20, isi21, isi22, isi23, isi24, isi25, isi26, isi27, isi28, isi29, isi30, isi31, isi32, isi33, isi34, isi35, isi36, isi37, isi38, isi39, isi40, isi41, onlyF, dIx_tup, dIx_lst, dIx_ref, ixAt_0, ixAt_1, ixAt_2, ixAt_3, iEq_int, iNe_int, dAdd, iAdd, iSub, iNeg, iCmp, iLe, iLt, iGe, iGt, dMul, iMulT, iMul, iMod, iDiv, gIx, setIx, decide_true, decide_false, decide_eq_true_eq, Bool.not_eq_true, List.length_map, gets_ok, gets_bind, gets_ite, rsw_ite, rsw_seq, rsw_thn, rsw_nx, rsw_ret, rst_x, rsx_seq, rsx_nx, rsx_ret, rsx_brk, rsx_cont, rsx_ite, rsx_thn, gets_fnM, onlyP, Option.map_some, Src.items, read_eq hm ht]
  have hl : m.len t = m.lenF 0 0 t := rfl
  have hr : ∀ {f' q' : Nat}, m.read 0 0 t = (f', some q') → q' < m.rs.length := fun e => Mac.read_ok hm ht (by have := hm.r1; omega) e
  unfold Mac.lenF at hl
  rcases he : m.read 0 0 t with ⟨f, _ | q⟩
  · rw [he] at hl
    simp [mVar, mK, mBin, mUn, mTru, mTest, mAnd, mOr, mNot, mAndV, mOrV, mNotV, mIf, mNil, mCons, mTup, mLst, mLstF, mCall, mChain, mIsi, fIsi, tyD, tyP, mSlice, oNo, oSome, mSeq, srcOf, mRange1, mRange2, sNext, sSeq, sIf, sRet, sRetN, sExpr, sSet, sAsg, sAug, sFor, sRaise, gSet, gMore, gNone, Mp.gTup, mMeth, fAppend, fLen, fInt, truth, ptruth, asB, pp1, pp2, ret1, dIs, isN, allP, frzD, mFrz, List.map_cons, List.map_nil, List.cons_append, List.nil_append, List.length_cons, List.length_nil, List.getElem?_cons_zero, List.getElem?_cons_succ, List.getElem?_nil, List.set_cons_zero, List.set_cons_succ, if_true, ite_true, Nat.reduceAdd, Nat.reduceSub, List.replicate, Bool.false_eq_true, if_false, Bool.not_true, Bool.not_false, mp_ft, mp_tf, isTy, beq_self_eq_true, isi0, isi1, isi2, isi3, isi4, isi5, isi6, isi7, isi8, isi9, isi10, isi11, isi12, isi13, isi14, isi15, isi16, isi17, isi18, isi19, isi20, isi21, isi22, isi23, isi24, isi25, isi26, isi27, isi28, isi29, isi30, isi31, isi32, isi33, isi34, isi35, isi36, isi37, isi38, isi39, isi40, isi41, onlyF, dIx_tup, dIx_lst, dIx_ref, ixAt_0, ixAt_1, ixAt_2, ixAt_3, iEq_int, iNe_int, dAdd, iAdd, iSub, iNeg, iCmp, iLe, iLt, iGe, iGt, dMul, iMulT, iMul, iMod, iDiv, gIx, setIx, decide_true, decide_false, decide_eq_true_eq, Bool.not_eq_true, List.length_map, gets_ok, gets_bind, gets_ite, rsw_ite, rsw_seq, rsw_thn, rsw_nx, rsw_ret, rst_x, rsx_seq, rsx_nx, rsx_ret, rsx_brk, rsx_cont, rsx_ite, rsx_thn, gets_fnM, onlyP, Option.map_some, Src.items, eRead, eO, hl]
  · rw [he] at hl
    have hq : q < m.rs.length := hr he
    simp only [mVar, mK, mBin, mUn, mTru, mTest, mAnd, mOr, mNot, mAndV, mOrV, mNotV, mIf, mNil, mCons, mTup, mLst, mLstF, mCall, mChain, mIsi, fIsi, tyD, tyP, mSlice, oNo, oSome, mSeq, srcOf, mRange1, mRange2, sNext, sSeq, sIf, sRet, sRetN, sExpr, sSet, sAsg, sAug, sFor, sRaise, gSet, gMore, gNone, Mp.gTup, mMeth, fAppend, fLen, fInt, truth, ptruth, asB, pp1, pp2, ret1, dIs, isN, allP, frzD, mFrz, List.map_cons, List.map_nil, List.cons_append, List.nil_append, List.length_cons, List.length_nil, List.getElem?_cons_zero, List.getElem?_cons_succ, List.getElem?_nil, List.set_cons_zero, List.set_cons_succ, if_true, ite_true, Nat.reduceAdd, Nat.reduceSub, List.replicate, Bool.false_eq_true, if_false, Bool.not_true, Bool.not_false, mp_ft, mp_tf, isTy, beq_self_eq_true, isi0, isi1, isi2, isi3, isi4, isi5, isi6, isi7, isi8, isi9, isi10, isi11, isi12, isi13, isi14, isi15, isi16, isi17, isi18, isi19, isi20, isi21, isi22, isi23, isi24, isi25, isi26, isi27, isi28, isi29, isi30, isi31, isi32, isi33, isi34, isi35, isi36, isi37, isi38, isi39, isi40, isi41, onlyF, dIx_tup, dIx_lst, dIx_ref, ixAt_0, ixAt_1, ixAt_2, ixAt_3, iEq_int, iNe_int, dAdd, iAdd, iSub, iNeg, iCmp, iLe, iLt, iGe, iGt, dMul, iMulT, iMul, iMod, iDiv, gIx, setIx, decide_true, decide_false, decide_eq_true_eq, Bool.not_eq_true, List.length_map, gets_ok, gets_bind, gets_ite, rsw_ite, rsw_seq, rsw_thn, rsw_nx, rsw_ret, rst_x, rsx_seq, rsx_nx, rsx_ret, rsx_brk, rsx_cont, rsx_ite, rsx_thn, gets_fnM, onlyP, Option.map_some, Src.items, eRead, eO, ix_M1, ix_rs hq, ix_R0]
    cases hf : (m.row q).fin with
    | none => simp [mVar, mK, mBin, mUn, mTru, mTest, mAnd, mOr, mNot, mAndV, mOrV, mNotV, mIf, mNil, mCons, mTup, mLst, mLstF, mCall, mChain, mIsi, fIsi, tyD, tyP, mSlice, oNo, oSome, mSeq, srcOf, mRange1, mRange2, sNext, sSeq, sIf, sRet, sRetN, sExpr, sSet, sAsg, sAug, sFor, sRaise, gSet, gMore, gNone, Mp.gTup, mMeth, fAppend, fLen, fInt, truth, ptruth, asB, pp1, pp2, ret1, dIs, isN, allP, frzD, mFrz, List.map_cons, List.map_nil, List.cons_append, List.nil_append, List.length_cons, List.length_nil, List.getElem?_cons_zero, List.getElem?_cons_succ, List.getElem?_nil, List.set_cons_zero, List.set_cons_succ, if_true, ite_true, Nat.reduceAdd, Nat.reduceSub, List.replicate, Bool.false_eq_true, if_false, Bool.not_true, Bool.not_false, mp_ft, mp_tf, isTy, beq_self_eq_true, isi0, isi1, isi2, isi3, isi4, isi5, isi6, isi7, isi8, isi9, isi10, isi11, isi12, isi13, isi14, isi15, isi16, isi17, isi18, isi19, isi20, isi21, isi22, isi23, isi24, isi25, isi26, isi27, isi28, isi29, isi30, isi31, isi32, isi33, isi34, isi35, isi36, isi37, isi38, isi39, isi40, isi41, onlyF, dIx_tup, dIx_lst, dIx_ref, ixAt_0, ixAt_1, ixAt_2, ixAt_3, iEq_int, iNe_int, dAdd, iAdd, iSub, iNeg, iCmp, iLe, iLt, iGe, iGt, dMul, iMulT, iMul, iMod, iDiv, gIx, setIx, decide_true, decide_false, decide_eq_true_eq, Bool.not_eq_true, List.length_map, gets_ok, gets_bind, gets_ite, rsw_ite, rsw_seq, rsw_thn, rsw_nx, rsw_ret, rst_x, rsx_seq, rsx_nx, rsx_ret, rsx_brk, rsx_cont, rsx_ite, rsx_thn, gets_fnM, onlyP, Option.map_some, Src.items, eO, hl, hf]
    | some k => simp [mVar, mK, mBin, mUn, mTru, mTest, mAnd, mOr, mNot, mAndV, mOrV, mNotV, mIf, mNil, mCons, mTup, mLst, mLstF, mCall, mChain, mIsi, fIsi, tyD, tyP, mSlice, oNo, oSome, mSeq, srcOf, mRange1, mRange2, sNext, sSeq, sIf, sRet, sRetN, sExpr, sSet, sAsg, sAug, sFor, sRaise, gSet, gMore, gNone, Mp.gTup, mMeth, fAppend, fLen, fInt, truth, ptruth, asB, pp1, pp2, ret1, dIs, isN, allP, frzD, mFrz, List.map_cons, List.map_nil, List.cons_append, List.nil_append, List.length_cons, List.length_nil, List.getElem?_cons_zero, List.getElem?_cons_succ, List.getElem?_nil, List.set_cons_zero, List.set_cons_succ, if_true, ite_true, Nat.reduceAdd, Nat.reduceSub, List.replicate, Bool.false_eq_true, if_false, Bool.not_true, Bool.not_false, mp_ft, mp_tf, isTy, beq_self_eq_true, isi0, isi1, isi2, isi3, isi4, isi5, isi6, isi7, isi8, isi9, isi10, isi11, isi12, isi13, isi14, isi15, isi16, isi17, isi18, isi19, isi20, isi21, isi22, isi23, isi24, isi25, isi26, isi27, isi28, isi29, isi30, isi31, isi32, isi33, isi34, isi35, isi36, isi37, isi38, isi39, isi40, isi41, onlyF, dIx_tup, dIx_lst, dIx_ref, ixAt_0, ixAt_1, ixAt_2, ixAt_3, iEq_int, iNe_int, dAdd, iAdd, iSub, iNeg, iCmp, iLe, iLt, iGe, iGt, dMul, iMulT, iMul, iMod, iDiv, gIx, setIx, decide_true, decide_false, decide_eq_true_eq, Bool.not_eq_true, List.length_map, gets_ok, gets_bind, gets_ite, rsw_ite, rsw_seq, rsw_thn, rsw_nx, rsw_ret, rst_x, rsx_seq, rsx_nx, rsx_ret, rsx_brk, rsx_cont, rsx_ite, rsx_thn, gets_fnM, onlyP, Option.map_some, Src.items, eO, hl, hf, ix_M1, ix_rs hq, ix_R0]

/-! _law_text -/
theorem sc__law_text : FnScope ["_law_well_here", "_law_machine_here", "_law_state", "_law_text_here", "_law_k", "_law_letters", "_law_one", "_law_at"] ["_law_well_here", "_law_machine_here"] (defScope t__law_text) := ⟨rfl, rfl, rfl, by decide +kernel, rfl, by decide +kernel, by decide +kernel⟩
theorem bn__law_text : BindN "_law_text" t__law_text ["_law_well_here", "_law_machine_here"] := fun _ _ _ _ _ _ us hl => match us, hl with | [_, _], _ => rfl
noncomputable def b__law_text : MS := (sSeq (sSet 2 (mK (.int 0))) (sSeq (sSet 3 (mLst mNil)) (sSeq (sFor (mRange1 (mBin dIx (mLstF (mCons (mCall M__law_draw (mCons (mVar 0) (mCons (mK (.int 21)) mNil))) (mCons (mBin dAdd (mK (.int 2000)) (mCall M__law_draw (mCons (mVar 0) (mCons (mK (.int 1999)) mNil)))) mNil))) (mCall fInt (mCons (mBin (pp2 iEq) (mCall M__law_draw (mCons (mVar 0) (mCons (mK (.int 40)) mNil))) (mK (.int 0))) mNil)))) (gSet 4) (sSeq (sSet 5 (mLc (mRange1 (mBin dIx (mVar 1) (mK (.int 0)))) [6] (gSet 6) (mTest (mBin (dIs false) (mBin dIx (mBin dIx (mBin dIx (mBin dIx (mVar 1) (mK (.int 1))) (mVar 2)) (mK (.int 1))) (mVar 6)) (mK .none))) (mVar 6) kFrz)) (sIf (mTest (mBin (pp2 iGt) (mCall fLen (mCons (mVar 5) mNil)) (mK (.int 0)))) (sSeq (sExpr (mMeth "list" fAppend (mVar 3) (mCons (mBin dIx (mVar 5) (mCall M__law_draw (mCons (mVar 0) (mCons (mCall fLen (mCons (mVar 5) mNil)) mNil)))) mNil))) (sSet 2 (mBin dIx (mBin dIx (mBin dIx (mBin dIx (mBin dIx (mVar 1) (mK (.int 1))) (mVar 2)) (mK (.int 1))) (mBin dIx (mVar 3) (mUn (pp1 iNeg) (mK (.int 1))))) (mK (.int 1))))) sNext))) (sSeq (sIf (mAnd (mTest (mBin (pp2 iEq) (mCall M__law_draw (mCons (mVar 0) (mCons (mK (.int 4)) mNil))) (mK (.int 0)))) (mTest (mBin (pp2 iGt) (mCall fLen (mCons (mVar 3) mNil)) (mK (.int 0))))) (sSeq (sSet 7 (mCall M__law_draw (mCons (mVar 0) (mCons (mCall fLen (mCons (mVar 3) mNil)) mNil)))) (sAsg (mCall M__law_draw (mCons (mVar 0) (mCons (mBin dIx (mVar 1) (mK (.int 0))) mNil))) (gIx (mVar 3) (mVar 7)))) sNext) (sRet (mCall fTuple (mCons (mVar 3) mNil)))))))
theorem raw__law_text (N : Nm K mg) : DefOk P w K mg base "_law_text" 4 2 (fnM 2 8 b__law_text) := def_mk N.d__law_text sc__law_text bn__law_text rfl rfl fun f cdv A outer s H E hr nd tk hp => (ss_cons (s_set (i := 2) nd e_int) (ss_cons (s_set (i := 3) nd (e_lst a_nil)) (ss_cons (s_for hp rfl (i_range1 rfl N.f_range (e_ix (e_lstF (a_cons (e_callS (ok__law_draw N) hr (by decide) tk (a_cons (e_var (i := 0)) (a_cons e_int a_nil)) (argN_cons (argN_cons argN_nil))) (a_cons (e_bin o_add e_int (e_callS (ok__law_draw N) hr (by decide) tk (a_cons (e_var (i := 0)) (a_cons e_int a_nil)) (argN_cons (argN_cons argN_nil)))) a_nil))) (e_ty b_int rfl N.f_int bt_int (a_cons (e_cmp (o_eq hr.units) (e_callS (ok__law_draw N) hr (by decide) tk (a_cons (e_var (i := 0)) (a_cons e_int a_nil)) (argN_cons (argN_cons argN_nil))) e_int (nomark _)) a_nil)))) (g_name (i := 4) nd) (ss_cons (s_lcF (i := 5) (own := [("_law_one", 6)]) rfl nd rfl rfl (sw_true rfl rfl rfl (by decide +kernel)) (i_range1 rfl N.f_range (e_ix (e_var (i := 1)) e_int)) (blkOk_by (N := ["_law_well_here", "_law_machine_here", "_law_state", "_law_text_here", "_law_k", "_law_letters", "_law_one", "_law_at"]) (sc := defScope t__law_text) (own := [("_law_one", 6)]) (by decide +kernel)) (tg_name (i := 6) (by decide)) (fun _ _ _ _ _ => pg_name (i := 6) nd rfl (by first | exact Or.inl rfl | exact Or.inr rfl)) (fun _ _ _ _ _ => (c_if (t_cmp o_isnot (e_ix (e_ix (e_ix (e_ix (e_var (i := 1)) e_int) (e_var (i := 2))) e_int) (e_var (i := 6))) e_none (nomark _)))) (fun _ _ _ _ _ => (e_var (i := 6)))) (ss_one (s_if (t_cmp o_gtP (e_bi b_len rfl N.f_len bt_len (a_cons (e_var (i := 5)) a_nil)) e_int (nomark _)) (ss_cons (s_expr (e_append (e_var (i := 3)) (a_cons (e_ix (e_var (i := 5)) (e_callS (ok__law_draw N) hr (by decide) tk (a_cons (e_var (i := 0)) (a_cons (e_bi b_len rfl N.f_len bt_len (a_cons (e_var (i := 5)) a_nil)) a_nil)) (argN_cons (argN_cons argN_nil)))) a_nil))) (ss_one (s_set (i := 2) nd (e_ix (e_ix (e_ix (e_ix (e_ix (e_var (i := 1)) e_int) (e_var (i := 2))) e_int) (e_ix (e_var (i := 3)) (e_un o_neg e_int))) e_int)))) ss_nil)))) (ss_cons (s_if (t_w (w_and (t_cmp (o_eq hr.units) (e_callS (ok__law_draw N) hr (by decide) tk (a_cons (e_var (i := 0)) (a_cons e_int a_nil)) (argN_cons (argN_cons argN_nil))) e_int (nomark _)) (w_and1 (t_cmp o_gtP (e_bi b_len rfl N.f_len bt_len (a_cons (e_var (i := 3)) a_nil)) e_int (nomark _))))) (ss_cons (s_set (i := 7) nd (e_callS (ok__law_draw N) hr (by decide) tk (a_cons (e_var (i := 0)) (a_cons (e_bi b_len rfl N.f_len bt_len (a_cons (e_var (i := 3)) a_nil)) a_nil)) (argN_cons (argN_cons argN_nil)))) (ss_one (s_asg (e_callS (ok__law_draw N) hr (by decide) tk (a_cons (e_var (i := 0)) (a_cons (e_ix (e_var (i := 1)) e_int) a_nil)) (argN_cons (argN_cons argN_nil))) (g_ix (e_var (i := 3)) (e_var (i := 7)))))) ss_nil) (ss_one (s_ret (e_ty b_tuple rfl N.f_tuple bt_tuple (a_cons (e_var (i := 3)) a_nil))))))))
noncomputable def M__law_text : List D → S → R D := pureRun (fnM 2 8 b__law_text)
theorem ok__law_text (N : Nm K mg) : DefOk P w K mg base "_law_text" 4 2 M__law_text := (raw__law_text N).alone
theorem text_w {g w : GH} {m : Mac} (hm : m.Ok) {Q : D → S → Prop} (hw : WA w) (h : ∀ (t : List Nat) (w' : GH), TxOk m.n t → t.length ≤ 4000 → WA w' → Q (.p (eT t)) ⟨g, w'⟩) : Gets (M__law_text [.well 0, .p (eM m)] ⟨g, w⟩) Q := by
  refine pure_gets rfl ?_
  have z0 : Mp.sizeOk 0 = true := by decide
  have z2 : Mp.sizeOk 2 = true := by decide
  have n8 := hm.n8
  have n1 := hm.n1
  simp only [b__law_text, mVar, mK, mBin, mUn, mTru, mTest, mAnd, mOr, mNot, mAndV, mOrV, mNotV, mIf, mNil, mCons, mTup, mLst, mLstF, mCall, mChain, mIsi, fIsi, tyD, tyP, mSlice, oNo, oSome, mSeq, srcOf, mRange1, mRange2, sNext, sSeq, sIf, sRet, sRetN, sExpr, sSet, sAsg, sAug, sFor, sRaise, gSet, gMore, gNone, Mp.gTup, mMeth, fAppend, fLen, fInt, truth, ptruth, asB, pp1, pp2, ret1, dIs, isN, allP, frzD, mFrz, List.map_cons, List.map_nil, List.cons_append, List.nil_append, List.length_cons, List.length_nil, List.getElem?_cons_zero, List.getElem?_cons_succ, List.getElem?_nil, List.set_cons_zero, List.set_cons_succ, if_true, ite_true, Nat.reduceAdd, Nat.reduceSub, List.replicate, Bool.false_eq_true, if_false, Bool.not_true, Bool.not_false, mp_ft, mp_tf, isTy, beq_self_eq_true, isi0, isi1, isi2, isi3, isi4, isi5, isi6, isi7, isi8, isi9, isi10, isi11, isi12, isi13, isi14, isi15, isi16, isi17, isi18, isi19, isi20, isi21, isi22, isi23, isi24, isi25, isi26, isi27, isi28, isi29, isi30, isi31, isi32, isi33, isi34, isi35, isi36, isi37, isi38, isi39, isi40, isi41, onlyF, dIx_tup, dIx_lst, dIx_ref, ixAt_0, ixAt_1, ixAt_2, ixAt_3, iEq_int, iNe_int, dAdd, iAdd, iSub, iNeg, iCmp, iLe, iLt, iGe, iGt, dMul, iMulT, iMul, iMod, iDiv, gIx, setIx, decide_true, decide_false, decide_eq_true_eq, Bool.not_eq_true, List.length_map, gets_ok, gets_bind, gets_ite, rsw_ite, rsw_seq, rsw_thn, rsw_nx, rsw_ret, rst_x, rsx_seq, rsx_nx, rsx_ret, rsx_brk, rsx_cont, rsx_ite, rsx_thn, gets_fnM, onlyP, Option.map_some, Src.items, newLst, z0]
  refine draw_w hw (by decide) (by decide) fun a w1 ha hw1 => ?_
  simp only [mVar, mK, mBin, mUn, mTru, mTest, mAnd, mOr, mNot, mAndV, mOrV, mNotV, mIf, mNil, mCons, mTup, mLst, mLstF, mCall, mChain, mIsi, fIsi, tyD, tyP, mSlice, oNo, oSome, mSeq, srcOf, mRange1, mRange2, sNext, sSeq, sIf, sRet, sRetN, sExpr, sSet, sAsg, sAug, sFor, sRaise, gSet, gMore, gNone, Mp.gTup, mMeth, fAppend, fLen, fInt, truth, ptruth, asB, pp1, pp2, ret1, dIs, isN, allP, frzD, mFrz, List.map_cons, List.map_nil, List.cons_append, List.nil_append, List.length_cons, List.length_nil, List.getElem?_cons_zero, List.getElem?_cons_succ, List.getElem?_nil, List.set_cons_zero, List.set_cons_succ, if_true, ite_true, Nat.reduceAdd, Nat.reduceSub, List.replicate, Bool.false_eq_true, if_false, Bool.not_true, Bool.not_false, mp_ft, mp_tf, isTy, beq_self_eq_true, isi0, isi1, isi2, isi3, isi4, isi5, isi6, isi7, isi8, isi9, isi10, isi11, isi12, isi13, isi14, isi15, isi16, isi17, isi18, isi19, isi20, isi21, isi22, isi23, isi24, isi25, isi26, isi27, isi28, isi29, isi30, isi31, isi32, isi33, isi34, isi35, isi36, isi37, isi38, isi39, isi40, isi41, onlyF, dIx_tup, dIx_lst, dIx_ref, ixAt_0, ixAt_1, ixAt_2, ixAt_3, iEq_int, iNe_int, dAdd, iAdd, iSub, iNeg, iCmp, iLe, iLt, iGe, iGt, dMul, iMulT, iMul, iMod, iDiv, gIx, setIx, decide_true, decide_false, decide_eq_true_eq, Bool.not_eq_true, List.length_map, gets_ok, gets_bind, gets_ite, rsw_ite, rsw_seq, rsw_thn, rsw_nx, rsw_ret, rst_x, rsx_seq, rsx_nx, rsx_ret, rsx_brk, rsx_cont, rsx_ite, rsx_thn, gets_fnM, onlyP, Option.map_some, Src.items]
  refine draw_w hw1 (by decide) (by decide) fun b w2 hb hw2 => ?_
  simp only [mVar, mK, mBin, mUn, mTru, mTest, mAnd, mOr, mNot, mAndV, mOrV, mNotV, mIf, mNil, mCons, mTup, mLst, mLstF, mCall, mChain, mIsi, fIsi, tyD, tyP, mSlice, oNo, oSome, mSeq, srcOf, mRange1, mRange2, sNext, sSeq, sIf, sRet, sRetN, sExpr, sSet, sAsg, sAug, sFor, sRaise, gSet, gMore, gNone, Mp.gTup, mMeth, fAppend, fLen, fInt, truth, ptruth, asB, pp1, pp2, ret1, dIs, isN, allP, frzD, mFrz, List.map_cons, List.map_nil, List.cons_append, List.nil_append, List.length_cons, List.length_nil, List.getElem?_cons_zero, List.getElem?_cons_succ, List.getElem?_nil, List.set_cons_zero, List.set_cons_succ, if_true, ite_true, Nat.reduceAdd, Nat.reduceSub, List.replicate, Bool.false_eq_true, if_false, Bool.not_true, Bool.not_false, mp_ft, mp_tf, isTy, beq_self_eq_true, isi0, isi1, isi2, isi3, isi4, isi5, isi6, isi7, isi8, isi9, isi10, isi11, isi12, isi13, isi14, isi15, isi16, isi17, isi18, isi19, isi20, isi21, isi22, isi23, isi24, isi25, isi26, isi27, isi28, isi29, isi30, isi31, isi32, isi33, isi34, isi35, isi36, isi37, isi38, isi39, isi40, isi41, onlyF, dIx_tup, dIx_lst, dIx_ref, ixAt_0, ixAt_1, ixAt_2, ixAt_3, iEq_int, iNe_int, dAdd, iAdd, iSub, iNeg, iCmp, iLe, iLt, iGe, iGt, dMul, iMulT, iMul, iMod, iDiv, gIx, setIx, decide_true, decide_false, decide_eq_true_eq, Bool.not_eq_true, List.length_map, gets_ok, gets_bind, gets_ite, rsw_ite, rsw_seq, rsw_thn, rsw_nx, rsw_ret, rst_x, rsx_seq, rsx_nx, rsx_ret, rsx_brk, rsx_cont, rsx_ite, rsx_thn, gets_fnM, onlyP, Option.map_some, Src.items, z2]
  refine draw_w hw2 (by decide) (by decide) fun c w3 hc hw3 => ?_
  have hn : ∃ n : Nat, n ≤ 4000 ∧ ixAt [PyData.int a, .int (2000 + b)] (if (c : Int) = 0 then 1 else 0) = some (.int n) := by
    by_cases h0 : (c : Int) = 0
    · exact ⟨2000 + b, by omega, by rw [if_pos h0]; exact ixAt_1⟩
    · exact ⟨a, by omega, by rw [if_neg h0]; exact ixAt_0⟩
  obtain ⟨n, hn, e⟩ := hn
  have ro : rngOk 0 (n : Int) := rngOk_of (by omega) (by omega) (by omega) (by omega)
  have ro' : rngOk 0 (m.n : Int) := rngOk_of (by omega) (by omega) (by omega) (by omega)
  simp only [mVar, mK, mBin, mUn, mTru, mTest, mAnd, mOr, mNot, mAndV, mOrV, mNotV, mIf, mNil, mCons, mTup, mLst, mLstF, mCall, mChain, mIsi, fIsi, tyD, tyP, mSlice, oNo, oSome, mSeq, srcOf, mRange1, mRange2, sNext, sSeq, sIf, sRet, sRetN, sExpr, sSet, sAsg, sAug, sFor, sRaise, gSet, gMore, gNone, Mp.gTup, mMeth, fAppend, fLen, fInt, truth, ptruth, asB, pp1, pp2, ret1, dIs, isN, allP, frzD, mFrz, List.map_cons, List.map_nil, List.cons_append, List.nil_append, List.length_cons, List.length_nil, List.getElem?_cons_zero, List.getElem?_cons_succ, List.getElem?_nil, List.set_cons_zero, List.set_cons_succ, if_true, ite_true, Nat.reduceAdd, Nat.reduceSub, List.replicate, Bool.false_eq_true, if_false, Bool.not_true, Bool.not_false, mp_ft, mp_tf, isTy, beq_self_eq_true, isi0, isi1, isi2, isi3, isi4, isi5, isi6, isi7, isi8, isi9, isi10, isi11, isi12, isi13, isi14, isi15, isi16, isi17, isi18, isi19, isi20, isi21, isi22, isi23, isi24, isi25, isi26, isi27, isi28, isi29, isi30, isi31, isi32, isi33, isi34, isi35, isi36, isi37, isi38, isi39, isi40, isi41, onlyF, dIx_tup, dIx_lst, dIx_ref, ixAt_0, ixAt_1, ixAt_2, ixAt_3, iEq_int, iNe_int, dAdd, iAdd, iSub, iNeg, iCmp, iLe, iLt, iGe, iGt, dMul, iMulT, iMul, iMod, iDiv, gIx, setIx, decide_true, decide_false, decide_eq_true_eq, Bool.not_eq_true, List.length_map, gets_ok, gets_bind, gets_ite, rsw_ite, rsw_seq, rsw_thn, rsw_nx, rsw_ret, rst_x, rsx_seq, rsx_nx, rsx_ret, rsx_brk, rsx_cont, rsx_ite, rsx_thn, gets_fnM, onlyP, Option.map_some, Src.items, e, ro]
  refine for_gets (J := fun xs e s' => ∃ (ts : List Nat) (q : Nat) (w' : GH) (e4 e5 : Option D), xs.length + ts.length ≤ n ∧ TxOk m.n ts ∧ q < m.rs.length ∧ WA w' ∧ s' = ⟨[some (.lst (ts.map fun c => D.p (eN c)))], w'⟩ ∧ e = [some (.well 0), some (.p (eM m)), some (.p (.int q)), some (.ref 0), e4, e5, none, none]) (fun _ _ _ _ => trivial) ?_ ?_ _ _ _ ?_
  · rintro x xs e s' ⟨ts, q, w', e4, e5, hl, hts, hq, hw', rfl, rfl⟩
    simp only [List.length_cons] at hl
    have hrl := (hm.row hq).len
    have zn : Mp.sizeOk (rngItems 0 m.n).length = true := by rw [rng_len]; exact sizeOk_of (by omega)
    have zn' : Mp.sizeOk m.n = true := sizeOk_of (by omega)
    simp only [mVar, mK, mBin, mUn, mTru, mTest, mAnd, mOr, mNot, mAndV, mOrV, mNotV, mIf, mNil, mCons, mTup, mLst, mLstF, mCall, mChain, mIsi, fIsi, tyD, tyP, mSlice, oNo, oSome, mSeq, srcOf, mRange1, mRange2, sNext, sSeq, sIf, sRet, sRetN, sExpr, sSet, sAsg, sAug, sFor, sRaise, gSet, gMore, gNone, Mp.gTup, mMeth, fAppend, fLen, fInt, truth, ptruth, asB, pp1, pp2, ret1, dIs, isN, allP, frzD, mFrz, List.map_cons, List.map_nil, List.cons_append, List.nil_append, List.length_cons, List.length_nil, List.getElem?_cons_zero, List.getElem?_cons_succ, List.getElem?_nil, List.set_cons_zero, List.set_cons_succ, if_true, ite_true, Nat.reduceAdd, Nat.reduceSub, List.replicate, Bool.false_eq_true, if_false, Bool.not_true, Bool.not_false, mp_ft, mp_tf, isTy, beq_self_eq_true, isi0, isi1, isi2, isi3, isi4, isi5, isi6, isi7, isi8, isi9, isi10, isi11, isi12, isi13, isi14, isi15, isi16, isi17, isi18, isi19, isi20, isi21, isi22, isi23, isi24, isi25, isi26, isi27, isi28, isi29, isi30, isi31, isi32, isi33, isi34, isi35, isi36, isi37, isi38, isi39, isi40, isi41, onlyF, dIx_tup, dIx_lst, dIx_ref, ixAt_0, ixAt_1, ixAt_2, ixAt_3, iEq_int, iNe_int, dAdd, iAdd, iSub, iNeg, iCmp, iLe, iLt, iGe, iGt, dMul, iMulT, iMul, iMod, iDiv, gIx, setIx, decide_true, decide_false, decide_eq_true_eq, Bool.not_eq_true, List.length_map, gets_ok, gets_bind, gets_ite, rsw_ite, rsw_seq, rsw_thn, rsw_nx, rsw_ret, rst_x, rsx_seq, rsx_nx, rsx_ret, rsx_brk, rsx_cont, rsx_ite, rsx_thn, gets_fnM, onlyP, Option.map_some, Src.items, ix_M0, mLc, ro', wipeE, Int.toNat_natCast, zn, List.length_range, zn', rng0]
    rw [lc_filter (f := fun k => D.p (eN k)) (p := fun k => ((m.row q).st k).isSome) trivial ?_ ?_]
    · simp only [mVar, mK, mBin, mUn, mTru, mTest, mAnd, mOr, mNot, mAndV, mOrV, mNotV, mIf, mNil, mCons, mTup, mLst, mLstF, mCall, mChain, mIsi, fIsi, tyD, tyP, mSlice, oNo, oSome, mSeq, srcOf, mRange1, mRange2, sNext, sSeq, sIf, sRet, sRetN, sExpr, sSet, sAsg, sAug, sFor, sRaise, gSet, gMore, gNone, Mp.gTup, mMeth, fAppend, fLen, fInt, truth, ptruth, asB, pp1, pp2, ret1, dIs, isN, allP, frzD, mFrz, List.map_cons, List.map_nil, List.cons_append, List.nil_append, List.length_cons, List.length_nil, List.getElem?_cons_zero, List.getElem?_cons_succ, List.getElem?_nil, List.set_cons_zero, List.set_cons_succ, if_true, ite_true, Nat.reduceAdd, Nat.reduceSub, List.replicate, Bool.false_eq_true, if_false, Bool.not_true, Bool.not_false, mp_ft, mp_tf, isTy, beq_self_eq_true, isi0, isi1, isi2, isi3, isi4, isi5, isi6, isi7, isi8, isi9, isi10, isi11, isi12, isi13, isi14, isi15, isi16, isi17, isi18, isi19, isi20, isi21, isi22, isi23, isi24, isi25, isi26, isi27, isi28, isi29, isi30, isi31, isi32, isi33, isi34, isi35, isi36, isi37, isi38, isi39, isi40, isi41, onlyF, dIx_tup, dIx_lst, dIx_ref, ixAt_0, ixAt_1, ixAt_2, ixAt_3, iEq_int, iNe_int, dAdd, iAdd, iSub, iNeg, iCmp, iLe, iLt, iGe, iGt, dMul, iMulT, iMul, iMod, iDiv, gIx, setIx, decide_true, decide_false, decide_eq_true_eq, Bool.not_eq_true, List.length_map, gets_ok, gets_bind, gets_ite, rsw_ite, rsw_seq, rsw_thn, rsw_nx, rsw_ret, rst_x, rsx_seq, rsx_nx, rsx_ret, rsx_brk, rsx_cont, rsx_ite, rsx_thn, gets_fnM, onlyP, Option.map_some, Src.items, kFrz, allP_map]
      by_cases hz : ((((List.range m.n).filter fun k => ((m.row q).st k).isSome).length : Nat) : Int) > 0
      · simp only [hz, mVar, mK, mBin, mUn, mTru, mTest, mAnd, mOr, mNot, mAndV, mOrV, mNotV, mIf, mNil, mCons, mTup, mLst, mLstF, mCall, mChain, mIsi, fIsi, tyD, tyP, mSlice, oNo, oSome, mSeq, srcOf, mRange1, mRange2, sNext, sSeq, sIf, sRet, sRetN, sExpr, sSet, sAsg, sAug, sFor, sRaise, gSet, gMore, gNone, Mp.gTup, mMeth, fAppend, fLen, fInt, truth, ptruth, asB, pp1, pp2, ret1, dIs, isN, allP, frzD, mFrz, List.map_cons, List.map_nil, List.cons_append, List.nil_append, List.length_cons, List.length_nil, List.getElem?_cons_zero, List.getElem?_cons_succ, List.getElem?_nil, List.set_cons_zero, List.set_cons_succ, if_true, ite_true, Nat.reduceAdd, Nat.reduceSub, List.replicate, Bool.false_eq_true, if_false, Bool.not_true, Bool.not_false, mp_ft, mp_tf, isTy, beq_self_eq_true, isi0, isi1, isi2, isi3, isi4, isi5, isi6, isi7, isi8, isi9, isi10, isi11, isi12, isi13, isi14, isi15, isi16, isi17, isi18, isi19, isi20, isi21, isi22, isi23, isi24, isi25, isi26, isi27, isi28, isi29, isi30, isi31, isi32, isi33, isi34, isi35, isi36, isi37, isi38, isi39, isi40, isi41, onlyF, dIx_tup, dIx_lst, dIx_ref, ixAt_0, ixAt_1, ixAt_2, ixAt_3, iEq_int, iNe_int, dAdd, iAdd, iSub, iNeg, iCmp, iLe, iLt, iGe, iGt, dMul, iMulT, iMul, iMod, iDiv, gIx, setIx, decide_true, decide_false, decide_eq_true_eq, Bool.not_eq_true, List.length_map, gets_ok, gets_bind, gets_ite, rsw_ite, rsw_seq, rsw_thn, rsw_nx, rsw_ret, rst_x, rsx_seq, rsx_nx, rsx_ret, rsx_brk, rsx_cont, rsx_ite, rsx_thn, gets_fnM, onlyP, Option.map_some, Src.items]
        refine draw_w hw' (by omega) ?_ fun r w4 hr hw4 => ?_
        · have := List.length_filter_le (fun k => ((m.row q).st k).isSome) (List.range m.n)
          simp at this
          omega
        · have hr' : r < (((List.range m.n).filter fun k => ((m.row q).st k).isSome)).length := by omega
          have hmem := List.getElem_mem hr'
          obtain ⟨k, hk⟩ : ∃ k, (((List.range m.n).filter fun k => ((m.row q).st k).isSome))[r] = k := ⟨_, rfl⟩
          rw [hk, List.mem_filter, List.mem_range] at hmem
          have hix : ixAt (((List.range m.n).filter fun k => ((m.row q).st k).isSome).map eN) (r : Int) = some (eN k) := by
            rw [ixAt_nat (by simpa using hr')]
            simp [hk]
          have zt : Mp.sizeOk (ts.length + 1) = true := sizeOk_of (by omega)
          obtain ⟨p, hp⟩ := Option.isSome_iff_exists.mp hmem.2
          have hpk := hm.st hq hmem.1 p hp
          simp only [mVar, mK, mBin, mUn, mTru, mTest, mAnd, mOr, mNot, mAndV, mOrV, mNotV, mIf, mNil, mCons, mTup, mLst, mLstF, mCall, mChain, mIsi, fIsi, tyD, tyP, mSlice, oNo, oSome, mSeq, srcOf, mRange1, mRange2, sNext, sSeq, sIf, sRet, sRetN, sExpr, sSet, sAsg, sAug, sFor, sRaise, gSet, gMore, gNone, Mp.gTup, mMeth, fAppend, fLen, fInt, truth, ptruth, asB, pp1, pp2, ret1, dIs, isN, allP, frzD, mFrz, List.map_cons, List.map_nil, List.cons_append, List.nil_append, List.length_cons, List.length_nil, List.getElem?_cons_zero, List.getElem?_cons_succ, List.getElem?_nil, List.set_cons_zero, List.set_cons_succ, if_true, ite_true, Nat.reduceAdd, Nat.reduceSub, List.replicate, Bool.false_eq_true, if_false, Bool.not_true, Bool.not_false, mp_ft, mp_tf, isTy, beq_self_eq_true, isi0, isi1, isi2, isi3, isi4, isi5, isi6, isi7, isi8, isi9, isi10, isi11, isi12, isi13, isi14, isi15, isi16, isi17, isi18, isi19, isi20, isi21, isi22, isi23, isi24, isi25, isi26, isi27, isi28, isi29, isi30, isi31, isi32, isi33, isi34, isi35, isi36, isi37, isi38, isi39, isi40, isi41, onlyF, dIx_tup, dIx_lst, dIx_ref, ixAt_0, ixAt_1, ixAt_2, ixAt_3, iEq_int, iNe_int, dAdd, iAdd, iSub, iNeg, iCmp, iLe, iLt, iGe, iGt, dMul, iMulT, iMul, iMod, iDiv, gIx, setIx, decide_true, decide_false, decide_eq_true_eq, Bool.not_eq_true, List.length_map, gets_ok, gets_bind, gets_ite, rsw_ite, rsw_seq, rsw_thn, rsw_nx, rsw_ret, rst_x, rsx_seq, rsx_nx, rsx_ret, rsx_brk, rsx_cont, rsx_ite, rsx_thn, gets_fnM, onlyP, Option.map_some, Src.items, hix, zt, ix_M1, ix_rs hq, ix_R1, ixAt_last]
          simp only [eN, ix_ss (r := m.row q) (c := k) (by rw [hrl]; exact hmem.1), hp, mVar, mK, mBin, mUn, mTru, mTest, mAnd, mOr, mNot, mAndV, mOrV, mNotV, mIf, mNil, mCons, mTup, mLst, mLstF, mCall, mChain, mIsi, fIsi, tyD, tyP, mSlice, oNo, oSome, mSeq, srcOf, mRange1, mRange2, sNext, sSeq, sIf, sRet, sRetN, sExpr, sSet, sAsg, sAug, sFor, sRaise, gSet, gMore, gNone, Mp.gTup, mMeth, fAppend, fLen, fInt, truth, ptruth, asB, pp1, pp2, ret1, dIs, isN, allP, frzD, mFrz, List.map_cons, List.map_nil, List.cons_append, List.nil_append, List.length_cons, List.length_nil, List.getElem?_cons_zero, List.getElem?_cons_succ, List.getElem?_nil, List.set_cons_zero, List.set_cons_succ, if_true, ite_true, Nat.reduceAdd, Nat.reduceSub, List.replicate, Bool.false_eq_true, if_false, Bool.not_true, Bool.not_false, mp_ft, mp_tf, isTy, beq_self_eq_true, isi0, isi1, isi2, isi3, isi4, isi5, isi6, isi7, isi8, isi9, isi10, isi11, isi12, isi13, isi14, isi15, isi16, isi17, isi18, isi19, isi20, isi21, isi22, isi23, isi24, isi25, isi26, isi27, isi28, isi29, isi30, isi31, isi32, isi33, isi34, isi35, isi36, isi37, isi38, isi39, isi40, isi41, onlyF, dIx_tup, dIx_lst, dIx_ref, ixAt_0, ixAt_1, ixAt_2, ixAt_3, iEq_int, iNe_int, dAdd, iAdd, iSub, iNeg, iCmp, iLe, iLt, iGe, iGt, dMul, iMulT, iMul, iMod, iDiv, gIx, setIx, decide_true, decide_false, decide_eq_true_eq, Bool.not_eq_true, List.length_map, gets_ok, gets_bind, gets_ite, rsw_ite, rsw_seq, rsw_thn, rsw_nx, rsw_ret, rst_x, rsx_seq, rsx_nx, rsx_ret, rsx_brk, rsx_cont, rsx_ite, rsx_thn, gets_fnM, onlyP, Option.map_some, Src.items, ix_S1]
          refine ⟨ts ++ [k], p.2, w4, _, _, by simp; omega, ?_, hpk.2, hw4, by simp [eN], rfl⟩
          intro y hy
          rcases List.mem_append.mp hy with h' | h'
          · exact hts y h'
          · simp at h'
            subst h'
            exact hmem.1
      · simp only [hz, mVar, mK, mBin, mUn, mTru, mTest, mAnd, mOr, mNot, mAndV, mOrV, mNotV, mIf, mNil, mCons, mTup, mLst, mLstF, mCall, mChain, mIsi, fIsi, tyD, tyP, mSlice, oNo, oSome, mSeq, srcOf, mRange1, mRange2, sNext, sSeq, sIf, sRet, sRetN, sExpr, sSet, sAsg, sAug, sFor, sRaise, gSet, gMore, gNone, Mp.gTup, mMeth, fAppend, fLen, fInt, truth, ptruth, asB, pp1, pp2, ret1, dIs, isN, allP, frzD, mFrz, List.map_cons, List.map_nil, List.cons_append, List.nil_append, List.length_cons, List.length_nil, List.getElem?_cons_zero, List.getElem?_cons_succ, List.getElem?_nil, List.set_cons_zero, List.set_cons_succ, if_true, ite_true, Nat.reduceAdd, Nat.reduceSub, List.replicate, Bool.false_eq_true, if_false, Bool.not_true, Bool.not_false, mp_ft, mp_tf, isTy, beq_self_eq_true, isi0, isi1, isi2, isi3, isi4, isi5, isi6, isi7, isi8, isi9, isi10, isi11, isi12, isi13, isi14, isi15, isi16, isi17, isi18, isi19, isi20, isi21, isi22, isi23, isi24, isi25, isi26, isi27, isi28, isi29, isi30, isi31, isi32, isi33, isi34, isi35, isi36, isi37, isi38, isi39, isi40, isi41, onlyF, dIx_tup, dIx_lst, dIx_ref, ixAt_0, ixAt_1, ixAt_2, ixAt_3, iEq_int, iNe_int, dAdd, iAdd, iSub, iNeg, iCmp, iLe, iLt, iGe, iGt, dMul, iMulT, iMul, iMod, iDiv, gIx, setIx, decide_true, decide_false, decide_eq_true_eq, Bool.not_eq_true, List.length_map, gets_ok, gets_bind, gets_ite, rsw_ite, rsw_seq, rsw_thn, rsw_nx, rsw_ret, rst_x, rsx_seq, rsx_nx, rsx_ret, rsx_brk, rsx_cont, rsx_ite, rsx_thn, gets_fnM, onlyP, Option.map_some, Src.items]
        exact ⟨ts, q, w', _, _, by omega, hts, hq, hw', rfl, rfl⟩
    · intro k hk
      rw [List.mem_range] at hk
      simp only [pureRun, onlyP, fnM, mVar, mK, mBin, mUn, mTru, mTest, mAnd, mOr, mNot, mAndV, mOrV, mNotV, mIf, mNil, mCons, mTup, mLst, mLstF, mCall, mChain, mIsi, fIsi, tyD, tyP, mSlice, oNo, oSome, mSeq, srcOf, mRange1, mRange2, sNext, sSeq, sIf, sRet, sRetN, sExpr, sSet, sAsg, sAug, sFor, sRaise, gSet, gMore, gNone, Mp.gTup, mMeth, fAppend, fLen, fInt, truth, ptruth, asB, pp1, pp2, ret1, dIs, isN, allP, frzD, mFrz, Mp.R.bind, R.thn, RS.seq, List.map_cons, List.map_nil, List.cons_append, List.nil_append, List.length_cons, List.length_nil, List.getElem?_cons_zero, List.getElem?_cons_succ, List.getElem?_nil, List.set_cons_zero, List.set_cons_succ, if_true, ite_true, Nat.reduceAdd, Nat.reduceSub, List.replicate, Bool.false_eq_true, if_false, Bool.not_true, Bool.not_false, mp_ft, mp_tf, isTy, beq_self_eq_true, isi0, isi1, isi2, isi3, isi4, isi5, isi6, isi7, isi8, isi9, isi10, isi11, isi12, isi13, isi14, isi15, isi16, isi17, isi18, isi19, isi20, isi21, isi22, isi23, isi24, isi25, isi26, isi27, isi28, isi29, isi30, isi31, isi32, isi33, isi34, isi35, isi36, isi37, isi38, isi39, isi40, isi41, onlyF, dIx_tup, dIx_lst, dIx_ref, ixAt_0, ixAt_1, ixAt_2, ixAt_3, iEq_int, iNe_int, dAdd, iAdd, iSub, iNeg, iCmp, iLe, iLt, iGe, iGt, dMul, iMulT, iMul, iMod, iDiv, gIx, setIx, decide_true, decide_false, decide_eq_true_eq, Bool.not_eq_true, List.length_map, eN, ix_M1, ix_rs hq, ix_R1, ix_ss (r := m.row q) (c := k) (by rw [hrl]; exact hk)]
      cases (m.row q).st k <;> rfl
    · intro k hk _
      simp only [pureRun, onlyP, fnM, mVar, mK, mBin, mUn, mTru, mTest, mAnd, mOr, mNot, mAndV, mOrV, mNotV, mIf, mNil, mCons, mTup, mLst, mLstF, mCall, mChain, mIsi, fIsi, tyD, tyP, mSlice, oNo, oSome, mSeq, srcOf, mRange1, mRange2, sNext, sSeq, sIf, sRet, sRetN, sExpr, sSet, sAsg, sAug, sFor, sRaise, gSet, gMore, gNone, Mp.gTup, mMeth, fAppend, fLen, fInt, truth, ptruth, asB, pp1, pp2, ret1, dIs, isN, allP, frzD, mFrz, Mp.R.bind, R.thn, RS.seq, List.map_cons, List.map_nil, List.cons_append, List.nil_append, List.length_cons, List.length_nil, List.getElem?_cons_zero, List.getElem?_cons_succ, List.getElem?_nil, List.set_cons_zero, List.set_cons_succ, if_true, ite_true, Nat.reduceAdd, Nat.reduceSub, List.replicate, Bool.false_eq_true, if_false, Bool.not_true, Bool.not_false, mp_ft, mp_tf, isTy, beq_self_eq_true, isi0, isi1, isi2, isi3, isi4, isi5, isi6, isi7, isi8, isi9, isi10, isi11, isi12, isi13, isi14, isi15, isi16, isi17, isi18, isi19, isi20, isi21, isi22, isi23, isi24, isi25, isi26, isi27, isi28, isi29, isi30, isi31, isi32, isi33, isi34, isi35, isi36, isi37, isi38, isi39, isi40, isi41, onlyF, dIx_tup, dIx_lst, dIx_ref, ixAt_0, ixAt_1, ixAt_2, ixAt_3, iEq_int, iNe_int, dAdd, iAdd, iSub, iNeg, iCmp, iLe, iLt, iGe, iGt, dMul, iMulT, iMul, iMod, iDiv, gIx, setIx, decide_true, decide_false, decide_eq_true_eq, Bool.not_eq_true, List.length_map]
  · rintro e s' ⟨ts, q, w', e4, e5, hl, hts, hq, hw', rfl, rfl⟩
    simp only [List.length_nil, Nat.zero_add] at hl
    simp only [mVar, mK, mBin, mUn, mTru, mTest, mAnd, mOr, mNot, mAndV, mOrV, mNotV, mIf, mNil, mCons, mTup, mLst, mLstF, mCall, mChain, mIsi, fIsi, tyD, tyP, mSlice, oNo, oSome, mSeq, srcOf, mRange1, mRange2, sNext, sSeq, sIf, sRet, sRetN, sExpr, sSet, sAsg, sAug, sFor, sRaise, gSet, gMore, gNone, Mp.gTup, mMeth, fAppend, fLen, fInt, truth, ptruth, asB, pp1, pp2, ret1, dIs, isN, allP, frzD, mFrz, List.map_cons, List.map_nil, List.cons_append, List.nil_append, List.length_cons, List.length_nil, List.getElem?_cons_zero, List.getElem?_cons_succ, List.getElem?_nil, List.set_cons_zero, List.set_cons_succ, if_true, ite_true, Nat.reduceAdd, Nat.reduceSub, List.replicate, Bool.false_eq_true, if_false, Bool.not_true, Bool.not_false, mp_ft, mp_tf, isTy, beq_self_eq_true, isi0, isi1, isi2, isi3, isi4, isi5, isi6, isi7, isi8, isi9, isi10, isi11, isi12, isi13, isi14, isi15, isi16, isi17, isi18, isi19, isi20, isi21, isi22, isi23, isi24, isi25, isi26, isi27, isi28, isi29, isi30, isi31, isi32, isi33, isi34, isi35, isi36, isi37, isi38, isi39, isi40, isi41, onlyF, dIx_tup, dIx_lst, dIx_ref, ixAt_0, ixAt_1, ixAt_2, ixAt_3, iEq_int, iNe_int, dAdd, iAdd, iSub, iNeg, iCmp, iLe, iLt, iGe, iGt, dMul, iMulT, iMul, iMod, iDiv, gIx, setIx, decide_true, decide_false, decide_eq_true_eq, Bool.not_eq_true, List.length_map, gets_ok, gets_bind, gets_ite, rsw_ite, rsw_seq, rsw_thn, rsw_nx, rsw_ret, rst_x, rsx_seq, rsx_nx, rsx_ret, rsx_brk, rsx_cont, rsx_ite, rsx_thn, gets_fnM, onlyP, Option.map_some, Src.items]
    refine draw_w hw' (by decide) (by decide) fun r w4 hr hw4 => ?_
    simp only [mVar, mK, mBin, mUn, mTru, mTest, mAnd, mOr, mNot, mAndV, mOrV, mNotV, mIf, mNil, mCons, mTup, mLst, mLstF, mCall, mChain, mIsi, fIsi, tyD, tyP, mSlice, oNo, oSome, mSeq, srcOf, mRange1, mRange2, sNext, sSeq, sIf, sRet, sRetN, sExpr, sSet, sAsg, sAug, sFor, sRaise, gSet, gMore, gNone, Mp.gTup, mMeth, fAppend, fLen, fInt, truth, ptruth, asB, pp1, pp2, ret1, dIs, isN, allP, frzD, mFrz, List.map_cons, List.map_nil, List.cons_append, List.nil_append, List.length_cons, List.length_nil, List.getElem?_cons_zero, List.getElem?_cons_succ, List.getElem?_nil, List.set_cons_zero, List.set_cons_succ, if_true, ite_true, Nat.reduceAdd, Nat.reduceSub, List.replicate, Bool.false_eq_true, if_false, Bool.not_true, Bool.not_false, mp_ft, mp_tf, isTy, beq_self_eq_true, isi0, isi1, isi2, isi3, isi4, isi5, isi6, isi7, isi8, isi9, isi10, isi11, isi12, isi13, isi14, isi15, isi16, isi17, isi18, isi19, isi20, isi21, isi22, isi23, isi24, isi25, isi26, isi27, isi28, isi29, isi30, isi31, isi32, isi33, isi34, isi35, isi36, isi37, isi38, isi39, isi40, isi41, onlyF, dIx_tup, dIx_lst, dIx_ref, ixAt_0, ixAt_1, ixAt_2, ixAt_3, iEq_int, iNe_int, dAdd, iAdd, iSub, iNeg, iCmp, iLe, iLt, iGe, iGt, dMul, iMulT, iMul, iMod, iDiv, gIx, setIx, decide_true, decide_false, decide_eq_true_eq, Bool.not_eq_true, List.length_map, gets_ok, gets_bind, gets_ite, rsw_ite, rsw_seq, rsw_thn, rsw_nx, rsw_ret, rst_x, rsx_seq, rsx_nx, rsx_ret, rsx_brk, rsx_cont, rsx_ite, rsx_thn, gets_fnM, onlyP, Option.map_some, Src.items]
    by_cases hr0 : (r : Int) = 0
    · by_cases ht0 : (ts.length : Int) > 0
      · simp only [hr0, ht0, mVar, mK, mBin, mUn, mTru, mTest, mAnd, mOr, mNot, mAndV, mOrV, mNotV, mIf, mNil, mCons, mTup, mLst, mLstF, mCall, mChain, mIsi, fIsi, tyD, tyP, mSlice, oNo, oSome, mSeq, srcOf, mRange1, mRange2, sNext, sSeq, sIf, sRet, sRetN, sExpr, sSet, sAsg, sAug, sFor, sRaise, gSet, gMore, gNone, Mp.gTup, mMeth, fAppend, fLen, fInt, truth, ptruth, asB, pp1, pp2, ret1, dIs, isN, allP, frzD, mFrz, List.map_cons, List.map_nil, List.cons_append, List.nil_append, List.length_cons, List.length_nil, List.getElem?_cons_zero, List.getElem?_cons_succ, List.getElem?_nil, List.set_cons_zero, List.set_cons_succ, if_true, ite_true, Nat.reduceAdd, Nat.reduceSub, List.replicate, Bool.false_eq_true, if_false, Bool.not_true, Bool.not_false, mp_ft, mp_tf, isTy, beq_self_eq_true, isi0, isi1, isi2, isi3, isi4, isi5, isi6, isi7, isi8, isi9, isi10, isi11, isi12, isi13, isi14, isi15, isi16, isi17, isi18, isi19, isi20, isi21, isi22, isi23, isi24, isi25, isi26, isi27, isi28, isi29, isi30, isi31, isi32, isi33, isi34, isi35, isi36, isi37, isi38, isi39, isi40, isi41, onlyF, dIx_tup, dIx_lst, dIx_ref, ixAt_0, ixAt_1, ixAt_2, ixAt_3, iEq_int, iNe_int, dAdd, iAdd, iSub, iNeg, iCmp, iLe, iLt, iGe, iGt, dMul, iMulT, iMul, iMod, iDiv, gIx, setIx, decide_true, decide_false, decide_eq_true_eq, Bool.not_eq_true, List.length_map, gets_ok, gets_bind, gets_ite, rsw_ite, rsw_seq, rsw_thn, rsw_nx, rsw_ret, rst_x, rsx_seq, rsx_nx, rsx_ret, rsx_brk, rsx_cont, rsx_ite, rsx_thn, gets_fnM, onlyP, Option.map_some, Src.items]
        refine draw_w hw4 (by omega) (by omega) fun k w5 hk hw5 => ?_
        have hk' : k < ts.length := by omega
        simp only [mVar, mK, mBin, mUn, mTru, mTest, mAnd, mOr, mNot, mAndV, mOrV, mNotV, mIf, mNil, mCons, mTup, mLst, mLstF, mCall, mChain, mIsi, fIsi, tyD, tyP, mSlice, oNo, oSome, mSeq, srcOf, mRange1, mRange2, sNext, sSeq, sIf, sRet, sRetN, sExpr, sSet, sAsg, sAug, sFor, sRaise, gSet, gMore, gNone, Mp.gTup, mMeth, fAppend, fLen, fInt, truth, ptruth, asB, pp1, pp2, ret1, dIs, isN, allP, frzD, mFrz, List.map_cons, List.map_nil, List.cons_append, List.nil_append, List.length_cons, List.length_nil, List.getElem?_cons_zero, List.getElem?_cons_succ, List.getElem?_nil, List.set_cons_zero, List.set_cons_succ, if_true, ite_true, Nat.reduceAdd, Nat.reduceSub, List.replicate, Bool.false_eq_true, if_false, Bool.not_true, Bool.not_false, mp_ft, mp_tf, isTy, beq_self_eq_true, isi0, isi1, isi2, isi3, isi4, isi5, isi6, isi7, isi8, isi9, isi10, isi11, isi12, isi13, isi14, isi15, isi16, isi17, isi18, isi19, isi20, isi21, isi22, isi23, isi24, isi25, isi26, isi27, isi28, isi29, isi30, isi31, isi32, isi33, isi34, isi35, isi36, isi37, isi38, isi39, isi40, isi41, onlyF, dIx_tup, dIx_lst, dIx_ref, ixAt_0, ixAt_1, ixAt_2, ixAt_3, iEq_int, iNe_int, dAdd, iAdd, iSub, iNeg, iCmp, iLe, iLt, iGe, iGt, dMul, iMulT, iMul, iMod, iDiv, gIx, setIx, decide_true, decide_false, decide_eq_true_eq, Bool.not_eq_true, List.length_map, gets_ok, gets_bind, gets_ite, rsw_ite, rsw_seq, rsw_thn, rsw_nx, rsw_ret, rst_x, rsx_seq, rsx_nx, rsx_ret, rsx_brk, rsx_cont, rsx_ite, rsx_thn, gets_fnM, onlyP, Option.map_some, Src.items, ix_M0]
        refine draw_w hw5 (by omega) (by omega) fun v w6 hv hw6 => ?_
        simp only [mVar, mK, mBin, mUn, mTru, mTest, mAnd, mOr, mNot, mAndV, mOrV, mNotV, mIf, mNil, mCons, mTup, mLst, mLstF, mCall, mChain, mIsi, fIsi, tyD, tyP, mSlice, oNo, oSome, mSeq, srcOf, mRange1, mRange2, sNext, sSeq, sIf, sRet, sRetN, sExpr, sSet, sAsg, sAug, sFor, sRaise, gSet, gMore, gNone, Mp.gTup, mMeth, fAppend, fLen, fInt, truth, ptruth, asB, pp1, pp2, ret1, dIs, isN, allP, frzD, mFrz, List.map_cons, List.map_nil, List.cons_append, List.nil_append, List.length_cons, List.length_nil, List.getElem?_cons_zero, List.getElem?_cons_succ, List.getElem?_nil, List.set_cons_zero, List.set_cons_succ, if_true, ite_true, Nat.reduceAdd, Nat.reduceSub, List.replicate, Bool.false_eq_true, if_false, Bool.not_true, Bool.not_false, mp_ft, mp_tf, isTy, beq_self_eq_true, isi0, isi1, isi2, isi3, isi4, isi5, isi6, isi7, isi8, isi9, isi10, isi11, isi12, isi13, isi14, isi15, isi16, isi17, isi18, isi19, isi20, isi21, isi22, isi23, isi24, isi25, isi26, isi27, isi28, isi29, isi30, isi31, isi32, isi33, isi34, isi35, isi36, isi37, isi38, isi39, isi40, isi41, onlyF, dIx_tup, dIx_lst, dIx_ref, ixAt_0, ixAt_1, ixAt_2, ixAt_3, iEq_int, iNe_int, dAdd, iAdd, iSub, iNeg, iCmp, iLe, iLt, iGe, iGt, dMul, iMulT, iMul, iMod, iDiv, gIx, setIx, decide_true, decide_false, decide_eq_true_eq, Bool.not_eq_true, List.length_map, gets_ok, gets_bind, gets_ite, rsw_ite, rsw_seq, rsw_thn, rsw_nx, rsw_ret, rst_x, rsx_seq, rsx_nx, rsx_ret, rsx_brk, rsx_cont, rsx_ite, rsx_thn, gets_fnM, onlyP, Option.map_some, Src.items, ixN_nat hk', fTuple, lstP]
        have he : (ts.map fun c => D.p (eN c)).set k (.p (.int v)) = (ts.set k v).map fun c => D.p (eN c) := by
          rw [List.map_set]
          rfl
        simp only [he, allP_map, mVar, mK, mBin, mUn, mTru, mTest, mAnd, mOr, mNot, mAndV, mOrV, mNotV, mIf, mNil, mCons, mTup, mLst, mLstF, mCall, mChain, mIsi, fIsi, tyD, tyP, mSlice, oNo, oSome, mSeq, srcOf, mRange1, mRange2, sNext, sSeq, sIf, sRet, sRetN, sExpr, sSet, sAsg, sAug, sFor, sRaise, gSet, gMore, gNone, Mp.gTup, mMeth, fAppend, fLen, fInt, truth, ptruth, asB, pp1, pp2, ret1, dIs, isN, allP, frzD, mFrz, List.map_cons, List.map_nil, List.cons_append, List.nil_append, List.length_cons, List.length_nil, List.getElem?_cons_zero, List.getElem?_cons_succ, List.getElem?_nil, List.set_cons_zero, List.set_cons_succ, if_true, ite_true, Nat.reduceAdd, Nat.reduceSub, List.replicate, Bool.false_eq_true, if_false, Bool.not_true, Bool.not_false, mp_ft, mp_tf, isTy, beq_self_eq_true, isi0, isi1, isi2, isi3, isi4, isi5, isi6, isi7, isi8, isi9, isi10, isi11, isi12, isi13, isi14, isi15, isi16, isi17, isi18, isi19, isi20, isi21, isi22, isi23, isi24, isi25, isi26, isi27, isi28, isi29, isi30, isi31, isi32, isi33, isi34, isi35, isi36, isi37, isi38, isi39, isi40, isi41, onlyF, dIx_tup, dIx_lst, dIx_ref, ixAt_0, ixAt_1, ixAt_2, ixAt_3, iEq_int, iNe_int, dAdd, iAdd, iSub, iNeg, iCmp, iLe, iLt, iGe, iGt, dMul, iMulT, iMul, iMod, iDiv, gIx, setIx, decide_true, decide_false, decide_eq_true_eq, Bool.not_eq_true, List.length_map, gets_ok, gets_bind, gets_ite, rsw_ite, rsw_seq, rsw_thn, rsw_nx, rsw_ret, rst_x, rsx_seq, rsx_nx, rsx_ret, rsx_brk, rsx_cont, rsx_ite, rsx_thn, gets_fnM, onlyP, Option.map_some, Src.items]
        refine ⟨_, rfl, h (ts.set k v) w6 ?_ (by simp; omega) hw6⟩
        intro y hy
        rcases List.mem_or_eq_of_mem_set hy with h' | h'
        · exact hts y h'
        · omega
      · simp only [hr0, ht0, mVar, mK, mBin, mUn, mTru, mTest, mAnd, mOr, mNot, mAndV, mOrV, mNotV, mIf, mNil, mCons, mTup, mLst, mLstF, mCall, mChain, mIsi, fIsi, tyD, tyP, mSlice, oNo, oSome, mSeq, srcOf, mRange1, mRange2, sNext, sSeq, sIf, sRet, sRetN, sExpr, sSet, sAsg, sAug, sFor, sRaise, gSet, gMore, gNone, Mp.gTup, mMeth, fAppend, fLen, fInt, truth, ptruth, asB, pp1, pp2, ret1, dIs, isN, allP, frzD, mFrz, List.map_cons, List.map_nil, List.cons_append, List.nil_append, List.length_cons, List.length_nil, List.getElem?_cons_zero, List.getElem?_cons_succ, List.getElem?_nil, List.set_cons_zero, List.set_cons_succ, if_true, ite_true, Nat.reduceAdd, Nat.reduceSub, List.replicate, Bool.false_eq_true, if_false, Bool.not_true, Bool.not_false, mp_ft, mp_tf, isTy, beq_self_eq_true, isi0, isi1, isi2, isi3, isi4, isi5, isi6, isi7, isi8, isi9, isi10, isi11, isi12, isi13, isi14, isi15, isi16, isi17, isi18, isi19, isi20, isi21, isi22, isi23, isi24, isi25, isi26, isi27, isi28, isi29, isi30, isi31, isi32, isi33, isi34, isi35, isi36, isi37, isi38, isi39, isi40, isi41, onlyF, dIx_tup, dIx_lst, dIx_ref, ixAt_0, ixAt_1, ixAt_2, ixAt_3, iEq_int, iNe_int, dAdd, iAdd, iSub, iNeg, iCmp, iLe, iLt, iGe, iGt, dMul, iMulT, iMul, iMod, iDiv, gIx, setIx, decide_true, decide_false, decide_eq_true_eq, Bool.not_eq_true, List.length_map, gets_ok, gets_bind, gets_ite, rsw_ite, rsw_seq, rsw_thn, rsw_nx, rsw_ret, rst_x, rsx_seq, rsx_nx, rsx_ret, rsx_brk, rsx_cont, rsx_ite, rsx_thn, gets_fnM, onlyP, Option.map_some, Src.items, fTuple, lstP, allP_map]
        exact ⟨_, rfl, h ts w4 hts (by omega) hw4⟩
    · simp only [hr0, mVar, mK, mBin, mUn, mTru, mTest, mAnd, mOr, mNot, mAndV, mOrV, mNotV, mIf, mNil, mCons, mTup, mLst, mLstF, mCall, mChain, mIsi, fIsi, tyD, tyP, mSlice, oNo, oSome, mSeq, srcOf, mRange1, mRange2, sNext, sSeq, sIf, sRet, sRetN, sExpr, sSet, sAsg, sAug, sFor, sRaise, gSet, gMore, gNone, Mp.gTup, mMeth, fAppend, fLen, fInt, truth, ptruth, asB, pp1, pp2, ret1, dIs, isN, allP, frzD, mFrz, List.map_cons, List.map_nil, List.cons_append, List.nil_append, List.length_cons, List.length_nil, List.getElem?_cons_zero, List.getElem?_cons_succ, List.getElem?_nil, List.set_cons_zero, List.set_cons_succ, if_true, ite_true, Nat.reduceAdd, Nat.reduceSub, List.replicate, Bool.false_eq_true, if_false, Bool.not_true, Bool.not_false, mp_ft, mp_tf, isTy, beq_self_eq_true, isi0, isi1, isi2, isi3, isi4, isi5, isi6, isi7, isi8, isi9, isi10, isi11, isi12, isi13, isi14, isi15, isi16, isi17, isi18, isi19, isi20, isi21, isi22, isi23, isi24, isi25, isi26, isi27, isi28, isi29, isi30, isi31, isi32, isi33, isi34, isi35, isi36, isi37, isi38, isi39, isi40, isi41, onlyF, dIx_tup, dIx_lst, dIx_ref, ixAt_0, ixAt_1, ixAt_2, ixAt_3, iEq_int, iNe_int, dAdd, iAdd, iSub, iNeg, iCmp, iLe, iLt, iGe, iGt, dMul, iMulT, iMul, iMod, iDiv, gIx, setIx, decide_true, decide_false, decide_eq_true_eq, Bool.not_eq_true, List.length_map, gets_ok, gets_bind, gets_ite, rsw_ite, rsw_seq, rsw_thn, rsw_nx, rsw_ret, rst_x, rsx_seq, rsx_nx, rsx_ret, rsx_brk, rsx_cont, rsx_ite, rsx_thn, gets_fnM, onlyP, Option.map_some, Src.items, fTuple, lstP, allP_map]
      exact ⟨_, rfl, h ts w4 hts (by omega) hw4⟩
  · exact ⟨[], 0, w3, none, none, by simp [rng_len], by simp [TxOk], hm.r1, hw3, rfl, rfl⟩

/-! _law_later -/
theorem sc__law_later : FnScope ["_law_step_here"] ["_law_step_here"] (defScope t__law_later) := ⟨rfl, rfl, rfl, by decide +kernel, rfl, by decide +kernel, by decide +kernel⟩
theorem bn__law_later : BindN "_law_later" t__law_later ["_law_step_here"] := fun _ _ _ _ _ _ us hl => match us, hl with | [_], _ => rfl
noncomputable def b__law_later : MS := (sSeq (sIf (mTest (mBin (dIs true) (mVar 0) (mK .none))) (sRet (mK .none)) sNext) (sRet (mTup (mCons (mBin dIx (mVar 0) (mK (.int 0))) (mCons (mBin dAdd (mBin dIx (mVar 0) (mK (.int 1))) (mK (.int 1))) mNil)))))
theorem raw__law_later (N : Nm K mg) : DefOk P w K mg base "_law_later" 1 1 (fnM 1 1 b__law_later) := def_mk N.d__law_later sc__law_later bn__law_later rfl rfl fun f cdv A outer s H E hr nd tk hp => (ss_cons (s_if (t_cmp o_is (e_var (i := 0)) e_none (nomark _)) (ss_one (s_ret e_none)) ss_nil) (ss_one (s_ret (e_tup (a_cons (e_ix (e_var (i := 0)) e_int) (a_cons (e_bin o_add (e_ix (e_var (i := 0)) e_int) e_int) a_nil))))))
noncomputable def M__law_later : List D → S → R D := pureRun (fnM 1 1 b__law_later)
theorem ok__law_later (N : Nm K mg) : DefOk P w K mg base "_law_later" 1 1 M__law_later := (raw__law_later N).alone
theorem later_eq {st : MSt} {s : S} : M__law_later [.p (eS st)] s = .ok (.p (eS (MSt.later st))) s := by
  refine pure_eq rfl ?_
  have z2 : Mp.sizeOk 2 = true := by decide
  cases st with
  | none => simp [b__law_later, mVar, mK, mBin, mUn, mTru, mTest, mAnd, mOr, mNot, mAndV, mOrV, mNotV, mIf, mNil, mCons, mTup, mLst, mLstF, mCall, mChain, mIsi, fIsi, tyD, tyP, mSlice, oNo, oSome, mSeq, srcOf, mRange1, mRange2, sNext, sSeq, sIf, sRet, sRetN, sExpr, sSet, sAsg, sAug, sFor, sRaise, gSet, gMore, gNone, Mp.gTup, mMeth, fAppend, fLen, fInt, truth, ptruth, asB, pp1, pp2, ret1, dIs, isN, allP, frzD, mFrz, List.map_cons, List.map_nil, List.cons_append, List.nil_append, List.length_cons, List.length_nil, List.getElem?_cons_zero, List.getElem?_cons_succ, List.getElem?_nil, List.set_cons_zero, List.set_cons_succ, if_true, ite_true, Nat.reduceAdd, Nat.reduceSub, List.replicate, Bool.false_eq_true, if_false, Bool.not_true, Bool.not_false, mp_ft, mp_tf, isTy, beq_self_eq_true, isi0, isi1, isi2, isi3, isi4, isi5, isi6, isi7, isi8, isi9, isi10, isi11, isi12, isi13, isi14, isi15, isi16, isi17, isi18, isi19, isi20, isi21, isi22, isi23, isi24, isi25, isi26, isi27, isi28, isi29, isi30, isi31, isi32, isi33, isi34, isi35, isi36, isi37, isi38, isi39, isi40, isi41, onlyF, dIx_tup, dIx_lst, dIx_ref, ixAt_0, ixAt_1, ixAt_2, ixAt_3, iEq_int, iNe_int, dAdd, iAdd, iSub, iNeg, iCmp, iLe, iLt, iGe, iGt, dMul, iMulT, iMul, iMod, iDiv, gIx, setIx, decide_true, decide_false, decide_eq_true_eq, Bool.not_eq_true, List.length_map, gets_ok, gets_bind, gets_ite, rsw_ite, rsw_seq, rsw_thn, rsw_nx, rsw_ret, rst_x, rsx_seq, rsx_nx, rsx_ret, rsx_brk, rsx_cont, rsx_ite, rsx_thn, gets_fnM, onlyP, Option.map_some, Src.items, eS, MSt.later]
  | some p => simp [b__law_later, mVar, mK, mBin, mUn, mTru, mTest, mAnd, mOr, mNot, mAndV, mOrV, mNotV, mIf, mNil, mCons, mTup, mLst, mLstF, mCall, mChain, mIsi, fIsi, tyD, tyP, mSlice, oNo, oSome, mSeq, srcOf, mRange1, mRange2, sNext, sSeq, sIf, sRet, sRetN, sExpr, sSet, sAsg, sAug, sFor, sRaise, gSet, gMore, gNone, Mp.gTup, mMeth, fAppend, fLen, fInt, truth, ptruth, asB, pp1, pp2, ret1, dIs, isN, allP, frzD, mFrz, List.map_cons, List.map_nil, List.cons_append, List.nil_append, List.length_cons, List.length_nil, List.getElem?_cons_zero, List.getElem?_cons_succ, List.getElem?_nil, List.set_cons_zero, List.set_cons_succ, if_true, ite_true, Nat.reduceAdd, Nat.reduceSub, List.replicate, Bool.false_eq_true, if_false, Bool.not_true, Bool.not_false, mp_ft, mp_tf, isTy, beq_self_eq_true, isi0, isi1, isi2, isi3, isi4, isi5, isi6, isi7, isi8, isi9, isi10, isi11, isi12, isi13, isi14, isi15, isi16, isi17, isi18, isi19, isi20, isi21, isi22, isi23, isi24, isi25, isi26, isi27, isi28, isi29, isi30, isi31, isi32, isi33, isi34, isi35, isi36, isi37, isi38, isi39, isi40, isi41, onlyF, dIx_tup, dIx_lst, dIx_ref, ixAt_0, ixAt_1, ixAt_2, ixAt_3, iEq_int, iNe_int, dAdd, iAdd, iSub, iNeg, iCmp, iLe, iLt, iGe, iGt, dMul, iMulT, iMul, iMod, iDiv, gIx, setIx, decide_true, decide_false, decide_eq_true_eq, Bool.not_eq_true, List.length_map, gets_ok, gets_bind, gets_ite, rsw_ite, rsw_seq, rsw_thn, rsw_nx, rsw_ret, rst_x, rsx_seq, rsx_nx, rsx_ret, rsx_brk, rsx_cont, rsx_ite, rsx_thn, gets_fnM, onlyP, Option.map_some, Src.items, eS, MSt.later, z2]

/-! _law_begun_at -/
theorem sc__law_begun_at : FnScope ["_law_machine_here", "_law_state", "_law_rows", "_law_moved", "_law_row", "_law_step_here"] ["_law_machine_here", "_law_state"] (defScope t__law_begun_at) := ⟨rfl, rfl, rfl, by decide +kernel, rfl, by decide +kernel, by decide +kernel⟩
theorem bn__law_begun_at : BindN "_law_begun_at" t__law_begun_at ["_law_machine_here", "_law_state"] := fun _ _ _ _ _ _ us hl => match us, hl with | [_, _], _ => rfl
noncomputable def b__law_begun_at : MS := (sSeq (sSet 2 (mCall fListF (mCons (mBin dIx (mVar 0) (mK (.int 1))) mNil))) (sSeq (sSet 3 (mLst mNil)) (sSeq (sFor (mSeq (mBin dAdd (mLstF (mCons (mBin dIx (mVar 2) (mVar 1)) mNil)) (mVar 2))) (gSet 4) (sExpr (mMeth "list" fAppend (mVar 3) (mCons (mTup (mCons (mBin dIx (mVar 4) (mK (.int 0))) (mCons (mCall fTuple (mCons (mLc (mSeq (mBin dIx (mVar 4) (mK (.int 1)))) [5] (gSet 5) mYes (mCall M__law_later (mCons (mVar 5) mNil)) kFrz) mNil)) mNil))) mNil)))) (sRet (mTup (mCons (mBin dIx (mVar 0) (mK (.int 0))) (mCons (mCall fTuple (mCons (mVar 3) mNil)) mNil)))))))
theorem raw__law_begun_at (N : Nm K mg) : DefOk P w K mg base "_law_begun_at" 2 2 (fnM 2 6 b__law_begun_at) := def_mk N.d__law_begun_at sc__law_begun_at bn__law_begun_at rfl rfl fun f cdv A outer s H E hr nd tk hp => (ss_cons (s_set (i := 2) nd (e_listF rfl N.f_list bt_list (a_cons (e_ix (e_var (i := 0)) e_int) a_nil))) (ss_cons (s_set (i := 3) nd (e_lst a_nil)) (ss_cons (s_for hp rfl (i_seq (e_bin o_add (e_lstF (a_cons (e_ix (e_var (i := 2)) (e_var (i := 1))) a_nil)) (e_var (i := 2)))) (g_name (i := 4) nd) (ss_one (s_expr (e_append (e_var (i := 3)) (a_cons (e_tup (a_cons (e_ix (e_var (i := 4)) e_int) (a_cons (e_ty b_tuple rfl N.f_tuple bt_tuple (a_cons (e_lcF (own := [("_law_step_here", 5)]) rfl nd (i_seq (e_ix (e_var (i := 4)) e_int)) (blkOk_by (N := ["_law_machine_here", "_law_state", "_law_rows", "_law_moved", "_law_row", "_law_step_here"]) (sc := defScope t__law_begun_at) (own := [("_law_step_here", 5)]) (by decide +kernel)) (tg_name (i := 5) (by decide)) (fun _ _ _ _ _ => pg_name (i := 5) nd rfl (by first | exact Or.inl rfl | exact Or.inr rfl)) (fun _ _ _ _ _ => c_no) (fun _ _ _ _ _ => (e_callS (ok__law_later N) hr (by decide) takes0 (a_cons (e_var (i := 5)) a_nil) (argN_cons argN_nil)))) a_nil)) a_nil))) a_nil))))) (ss_one (s_ret (e_tup (a_cons (e_ix (e_var (i := 0)) e_int) (a_cons (e_ty b_tuple rfl N.f_tuple bt_tuple (a_cons (e_var (i := 3)) a_nil)) a_nil))))))))
noncomputable def M__law_begun_at : List D → S → R D := pureRun (fnM 2 6 b__law_begun_at)
theorem ok__law_begun_at (N : Nm K mg) : DefOk P w K mg base "_law_begun_at" 2 2 M__law_begun_at := (raw__law_begun_at N).alone
theorem begun_eq {m : Mac} (hm : m.Ok) {q : Nat} (hq : q < m.rs.length) {s : S} : M__law_begun_at [.p (eM m), .p (.int q)] s = .ok (.p (eM (m.begun q))) s := by
  refine pure_eq rfl ?_
  have z1 : Mp.sizeOk 1 = true := by decide
  have z2 : Mp.sizeOk 2 = true := by decide
  have z0 : Mp.sizeOk 0 = true := by decide
  have h30 := hm.r30
  have zl : Mp.sizeOk (1 + m.rs.length) = true := sizeOk_of (by omega)
  have eq1 : ixAt (m.rs.map eR) (q : Int) = some (eR (m.row q)) := by
    rw [ixAt_nat (by simpa using hq)]
    simp [Mac.row_eq hq]
  simp only [b__law_begun_at, mVar, mK, mBin, mUn, mTru, mTest, mAnd, mOr, mNot, mAndV, mOrV, mNotV, mIf, mNil, mCons, mTup, mLst, mLstF, mCall, mChain, mIsi, fIsi, tyD, tyP, mSlice, oNo, oSome, mSeq, srcOf, mRange1, mRange2, sNext, sSeq, sIf, sRet, sRetN, sExpr, sSet, sAsg, sAug, sFor, sRaise, gSet, gMore, gNone, Mp.gTup, mMeth, fAppend, fLen, fInt, truth, ptruth, asB, pp1, pp2, ret1, dIs, isN, allP, frzD, mFrz, List.map_cons, List.map_nil, List.cons_append, List.nil_append, List.length_cons, List.length_nil, List.getElem?_cons_zero, List.getElem?_cons_succ, List.getElem?_nil, List.set_cons_zero, List.set_cons_succ, if_true, ite_true, Nat.reduceAdd, Nat.reduceSub, List.replicate, Bool.false_eq_true, if_false, Bool.not_true, Bool.not_false, mp_ft, mp_tf, isTy, beq_self_eq_true, isi0, isi1, isi2, isi3, isi4, isi5, isi6, isi7, isi8, isi9, isi10, isi11, isi12, isi13, isi14, isi15, isi16, isi17, isi18, isi19, isi20, isi21, isi22, isi23, isi24, isi25, isi26, isi27, isi28, isi29, isi30, isi31, isi32, isi33, isi34, isi35, isi36, isi37, isi38, isi39, isi40, isi41, onlyF, dIx_tup, dIx_lst, dIx_ref, ixAt_0, ixAt_1, ixAt_2, ixAt_3, iEq_int, iNe_int, dAdd, iAdd, iSub, iNeg, iCmp, iLe, iLt, iGe, iGt, dMul, iMulT, iMul, iMod, iDiv, gIx, setIx, decide_true, decide_false, decide_eq_true_eq, Bool.not_eq_true, List.length_map, gets_ok, gets_bind, gets_ite, rsw_ite, rsw_seq, rsw_thn, rsw_nx, rsw_ret, rst_x, rsx_seq, rsx_nx, rsx_ret, rsx_brk, rsx_cont, rsx_ite, rsx_thn, gets_fnM, onlyP, Option.map_some, Src.items, ix_M1, fListF, newLst, z0, z1, eq1, kNew, zl, Src.ok, map_map]
  refine for_gets (J := fun xs e s' => ∃ (r1 r2 : List MRow) (e4 : Option D), xs = r1.map (fun r => D.p (eR r)) ∧ r2 ++ r1 = m.row q :: m.rs ∧ s' = ⟨[some (.lst (r2.map fun r => D.p (eR r.later))), some (.lst ((m.row q :: m.rs).map fun r => D.p (eR r)))], s.w⟩ ∧ e = [some (.p (eM m)), some (.p (.int q)), some (.p (.list (m.rs.map eR))), some (.ref 0), e4, none]) ?_ ?_ ?_ _ _ _ ?_
  · rintro xs e s' ⟨r1, r2, e4, rfl, hr, rfl, rfl⟩
    simp [eR, Src.ok]
  · rintro x xs e s' ⟨r1, r2, e4, hx, hr, rfl, rfl⟩
    cases r1 with
    | nil => cases hx
    | cons r r1 =>
      cases hx
      have hmem : r ∈ m.row q :: m.rs := by rw [← hr]; simp
      have hrl : r.ss.length = m.n := by
        rcases List.mem_cons.mp hmem with h | h
        · rw [h]; exact (hm.row hq).len
        · exact (hm.rs r h).len
      have h8 := hm.n8
      have zr : Mp.sizeOk r.ss.length = true := sizeOk_of (by omega)
      have zr2 : Mp.sizeOk (r2.length + 1) = true := sizeOk_of (by
        have := congrArg List.length hr
        simp at this
        omega)
      simp only [mVar, mK, mBin, mUn, mTru, mTest, mAnd, mOr, mNot, mAndV, mOrV, mNotV, mIf, mNil, mCons, mTup, mLst, mLstF, mCall, mChain, mIsi, fIsi, tyD, tyP, mSlice, oNo, oSome, mSeq, srcOf, mRange1, mRange2, sNext, sSeq, sIf, sRet, sRetN, sExpr, sSet, sAsg, sAug, sFor, sRaise, gSet, gMore, gNone, Mp.gTup, mMeth, fAppend, fLen, fInt, truth, ptruth, asB, pp1, pp2, ret1, dIs, isN, allP, frzD, mFrz, List.map_cons, List.map_nil, List.cons_append, List.nil_append, List.length_cons, List.length_nil, List.getElem?_cons_zero, List.getElem?_cons_succ, List.getElem?_nil, List.set_cons_zero, List.set_cons_succ, if_true, ite_true, Nat.reduceAdd, Nat.reduceSub, List.replicate, Bool.false_eq_true, if_false, Bool.not_true, Bool.not_false, mp_ft, mp_tf, isTy, beq_self_eq_true, isi0, isi1, isi2, isi3, isi4, isi5, isi6, isi7, isi8, isi9, isi10, isi11, isi12, isi13, isi14, isi15, isi16, isi17, isi18, isi19, isi20, isi21, isi22, isi23, isi24, isi25, isi26, isi27, isi28, isi29, isi30, isi31, isi32, isi33, isi34, isi35, isi36, isi37, isi38, isi39, isi40, isi41, onlyF, dIx_tup, dIx_lst, dIx_ref, ixAt_0, ixAt_1, ixAt_2, ixAt_3, iEq_int, iNe_int, dAdd, iAdd, iSub, iNeg, iCmp, iLe, iLt, iGe, iGt, dMul, iMulT, iMul, iMod, iDiv, gIx, setIx, decide_true, decide_false, decide_eq_true_eq, Bool.not_eq_true, List.length_map, gets_ok, gets_bind, gets_ite, rsw_ite, rsw_seq, rsw_thn, rsw_nx, rsw_ret, rst_x, rsx_seq, rsx_nx, rsx_ret, rsx_brk, rsx_cont, rsx_ite, rsx_thn, gets_fnM, onlyP, Option.map_some, Src.items, mLc, ix_R0, ix_R1, wipeE, zr, map_map]
      rw [lc_map (f := fun st => D.p (eS (MSt.later st))) trivial (fun x _ => by simp only [pureRun, onlyP, fnM, mVar, mK, mBin, mUn, mTru, mTest, mAnd, mOr, mNot, mAndV, mOrV, mNotV, mIf, mNil, mCons, mTup, mLst, mLstF, mCall, mChain, mIsi, fIsi, tyD, tyP, mSlice, oNo, oSome, mSeq, srcOf, mRange1, mRange2, sNext, sSeq, sIf, sRet, sRetN, sExpr, sSet, sAsg, sAug, sFor, sRaise, gSet, gMore, gNone, Mp.gTup, mMeth, fAppend, fLen, fInt, truth, ptruth, asB, pp1, pp2, ret1, dIs, isN, allP, frzD, mFrz, Mp.R.bind, R.thn, RS.seq, List.map_cons, List.map_nil, List.cons_append, List.nil_append, List.length_cons, List.length_nil, List.getElem?_cons_zero, List.getElem?_cons_succ, List.getElem?_nil, List.set_cons_zero, List.set_cons_succ, if_true, ite_true, Nat.reduceAdd, Nat.reduceSub, List.replicate, Bool.false_eq_true, if_false, Bool.not_true, Bool.not_false, mp_ft, mp_tf, isTy, beq_self_eq_true, isi0, isi1, isi2, isi3, isi4, isi5, isi6, isi7, isi8, isi9, isi10, isi11, isi12, isi13, isi14, isi15, isi16, isi17, isi18, isi19, isi20, isi21, isi22, isi23, isi24, isi25, isi26, isi27, isi28, isi29, isi30, isi31, isi32, isi33, isi34, isi35, isi36, isi37, isi38, isi39, isi40, isi41, onlyF, dIx_tup, dIx_lst, dIx_ref, ixAt_0, ixAt_1, ixAt_2, ixAt_3, iEq_int, iNe_int, dAdd, iAdd, iSub, iNeg, iCmp, iLe, iLt, iGe, iGt, dMul, iMulT, iMul, iMod, iDiv, gIx, setIx, decide_true, decide_false, decide_eq_true_eq, Bool.not_eq_true, List.length_map, later_eq])]
      simp only [mVar, mK, mBin, mUn, mTru, mTest, mAnd, mOr, mNot, mAndV, mOrV, mNotV, mIf, mNil, mCons, mTup, mLst, mLstF, mCall, mChain, mIsi, fIsi, tyD, tyP, mSlice, oNo, oSome, mSeq, srcOf, mRange1, mRange2, sNext, sSeq, sIf, sRet, sRetN, sExpr, sSet, sAsg, sAug, sFor, sRaise, gSet, gMore, gNone, Mp.gTup, mMeth, fAppend, fLen, fInt, truth, ptruth, asB, pp1, pp2, ret1, dIs, isN, allP, frzD, mFrz, List.map_cons, List.map_nil, List.cons_append, List.nil_append, List.length_cons, List.length_nil, List.getElem?_cons_zero, List.getElem?_cons_succ, List.getElem?_nil, List.set_cons_zero, List.set_cons_succ, if_true, ite_true, Nat.reduceAdd, Nat.reduceSub, List.replicate, Bool.false_eq_true, if_false, Bool.not_true, Bool.not_false, mp_ft, mp_tf, isTy, beq_self_eq_true, isi0, isi1, isi2, isi3, isi4, isi5, isi6, isi7, isi8, isi9, isi10, isi11, isi12, isi13, isi14, isi15, isi16, isi17, isi18, isi19, isi20, isi21, isi22, isi23, isi24, isi25, isi26, isi27, isi28, isi29, isi30, isi31, isi32, isi33, isi34, isi35, isi36, isi37, isi38, isi39, isi40, isi41, onlyF, dIx_tup, dIx_lst, dIx_ref, ixAt_0, ixAt_1, ixAt_2, ixAt_3, iEq_int, iNe_int, dAdd, iAdd, iSub, iNeg, iCmp, iLe, iLt, iGe, iGt, dMul, iMulT, iMul, iMod, iDiv, gIx, setIx, decide_true, decide_false, decide_eq_true_eq, Bool.not_eq_true, List.length_map, gets_ok, gets_bind, gets_ite, rsw_ite, rsw_seq, rsw_thn, rsw_nx, rsw_ret, rst_x, rsx_seq, rsx_nx, rsx_ret, rsx_brk, rsx_cont, rsx_ite, rsx_thn, gets_fnM, onlyP, Option.map_some, Src.items, kFrz, allP_map, fTuple, lstP, z2, zr2]
      exact ⟨r1, r2 ++ [r], _, rfl, by simpa using hr, by simp [eR, MRow.later, Function.comp_def], rfl⟩
  · rintro e s' ⟨r1, r2, e4, hx, hr, rfl, rfl⟩
    cases r1 with
    | cons c t1 => cases hx
    | nil =>
      simp only [List.append_nil] at hr
      subst hr
      simp [mVar, mK, mBin, mUn, mTru, mTest, mAnd, mOr, mNot, mAndV, mOrV, mNotV, mIf, mNil, mCons, mTup, mLst, mLstF, mCall, mChain, mIsi, fIsi, tyD, tyP, mSlice, oNo, oSome, mSeq, srcOf, mRange1, mRange2, sNext, sSeq, sIf, sRet, sRetN, sExpr, sSet, sAsg, sAug, sFor, sRaise, gSet, gMore, gNone, Mp.gTup, mMeth, fAppend, fLen, fInt, truth, ptruth, asB, pp1, pp2, ret1, dIs, isN, allP, frzD, mFrz, List.map_cons, List.map_nil, List.cons_append, List.nil_append, List.length_cons, List.length_nil, List.getElem?_cons_zero, List.getElem?_cons_succ, List.getElem?_nil, List.set_cons_zero, List.set_cons_succ, if_true, ite_true, Nat.reduceAdd, Nat.reduceSub, List.replicate, Bool.false_eq_true, if_false, Bool.not_true, Bool.not_false, mp_ft, mp_tf, isTy, beq_self_eq_true, isi0, isi1, isi2, isi3, isi4, isi5, isi6, isi7, isi8, isi9, isi10, isi11, isi12, isi13, isi14, isi15, isi16, isi17, isi18, isi19, isi20, isi21, isi22, isi23, isi24, isi25, isi26, isi27, isi28, isi29, isi30, isi31, isi32, isi33, isi34, isi35, isi36, isi37, isi38, isi39, isi40, isi41, onlyF, dIx_tup, dIx_lst, dIx_ref, ixAt_0, ixAt_1, ixAt_2, ixAt_3, iEq_int, iNe_int, dAdd, iAdd, iSub, iNeg, iCmp, iLe, iLt, iGe, iGt, dMul, iMulT, iMul, iMod, iDiv, gIx, setIx, decide_true, decide_false, decide_eq_true_eq, Bool.not_eq_true, List.length_map, gets_ok, gets_bind, gets_ite, rsw_ite, rsw_seq, rsw_thn, rsw_nx, rsw_ret, rst_x, rsx_seq, rsx_nx, rsx_ret, rsx_brk, rsx_cont, rsx_ite, rsx_thn, gets_fnM, onlyP, Option.map_some, Src.items, fTuple, lstP, allP_map, z2, ix_M0, eM, Mac.begun]
  · exact ⟨m.row q :: m.rs, [], none, by simp, rfl, by simp, rfl⟩

/-! _law_told -/
theorem sc__law_told : FnScope ["_law_machine_here", "_law_text_here", "_law_told_here"] ["_law_machine_here", "_law_text_here"] (defScope t__law_told) := ⟨rfl, rfl, rfl, by decide +kernel, rfl, by decide +kernel, by decide +kernel⟩
theorem bn__law_told : BindN "_law_told" t__law_told ["_law_machine_here", "_law_text_here"] := fun _ _ _ _ _ _ us hl => match us, hl with | [_, _], _ => rfl
noncomputable def b__law_told : MS := (sSeq (sSet 2 (mTup (mCons (mK (.str "other")) (mCons (mK .none) mNil)))) (sSeq (sTryX emT (sSet 2 (mTup (mCons (mK (.str "told")) (mCons (mCall M_length (mCons (mVar 0) (mCons (mVar 1) mNil))) mNil)))) [("NoMachine", (sSet 2 (mTup (mCons (mK (.str "machine")) (mCons (mK .none) mNil))))), ("NoText", (sSet 2 (mTup (mCons (mK (.str "text")) (mCons (mK .none) mNil))))), ("LengthError", (sSet 2 (mTup (mCons (mK (.str "other")) (mCons (mK .none) mNil)))))]) (sRet (mVar 2))))
theorem raw__law_told (N : Nm K mg) : DefOk P w K mg base "_law_told" 9 2 (fnM 2 3 b__law_told) := def_mk N.d__law_told sc__law_told bn__law_told rfl rfl fun f cdv A outer s H E hr nd tk hp => (ss_cons (s_set (i := 2) nd (e_tup (a_cons e_str (a_cons e_none a_nil)))) (ss_cons (s_tryX (em := emT) tk (fun W' pn xe tk' hp' => (ss_one (s_set (i := 2) nd (e_tup (a_cons e_str (a_cons (e_callS (ok_length N) hr (by decide) tk' (a_cons (e_var (i := 0)) (a_cons (e_var (i := 1)) a_nil)) (argN_cons (argN_cons argN_nil))) a_nil)))))) (HdX.cons N.e_NoMachine rfl (by decide) (fun _ _ => (ss_one (s_set (i := 2) nd (e_tup (a_cons e_str (a_cons e_none a_nil)))))) (HdX.cons N.e_NoText rfl (by decide) (fun _ _ => (ss_one (s_set (i := 2) nd (e_tup (a_cons e_str (a_cons e_none a_nil)))))) (HdX.cons N.e_LengthError rfl (by decide) (fun _ _ => (ss_one (s_set (i := 2) nd (e_tup (a_cons e_str (a_cons e_none a_nil)))))) HdX.nil)))) (ss_one (s_ret (e_var (i := 2))))))
noncomputable def M__law_told : List D → S → R D := pureRun (fnM 2 3 b__law_told)
theorem ok__law_told (N : Nm K mg) : DefOk P w K mg base "_law_told" 9 2 M__law_told := (raw__law_told N).alone
theorem told_fit {m : Mac} (hm : m.Ok) {t : List Nat} (ht : TxOk m.n t) (hz : t.length ≤ 16777216) {s : S} : M__law_told [.p (eM m), .p (eT t)] s = .ok (.p (.tuple [.str "told", eO (m.len t)])) s := by
  have z2 : Mp.sizeOk 2 = true := by decide
  simp [M__law_told, b__law_told, pureRun, onlyP, fnM, mVar, mK, mBin, mUn, mTru, mTest, mAnd, mOr, mNot, mAndV, mOrV, mNotV, mIf, mNil, mCons, mTup, mLst, mLstF, mCall, mChain, mIsi, fIsi, tyD, tyP, mSlice, oNo, oSome, mSeq, srcOf, mRange1, mRange2, sNext, sSeq, sIf, sRet, sRetN, sExpr, sSet, sAsg, sAug, sFor, sRaise, gSet, gMore, gNone, Mp.gTup, mMeth, fAppend, fLen, fInt, truth, ptruth, asB, pp1, pp2, ret1, dIs, isN, allP, frzD, mFrz, Mp.R.bind, R.thn, RS.seq, List.map_cons, List.map_nil, List.cons_append, List.nil_append, List.length_cons, List.length_nil, List.getElem?_cons_zero, List.getElem?_cons_succ, List.getElem?_nil, List.set_cons_zero, List.set_cons_succ, if_true, ite_true, Nat.reduceAdd, Nat.reduceSub, List.replicate, Bool.false_eq_true, if_false, Bool.not_true, Bool.not_false, mp_ft, mp_tf, isTy, beq_self_eq_true, isi0, isi1, isi2, isi3, isi4, isi5, isi6, isi7, isi8, isi9, isi10, isi11, isi12, isi13, isi14, isi15, isi16, isi17, isi18, isi19, isi20, isi21, isi22, isi23, isi24, isi25, isi26, isi27, isi28, isi29, isi30, isi31, isi32, isi33, isi34, isi35, isi36, isi37, isi38, isi39, isi40, isi41, onlyF, dIx_tup, dIx_lst, dIx_ref, ixAt_0, ixAt_1, ixAt_2, ixAt_3, iEq_int, iNe_int, dAdd, iAdd, iSub, iNeg, iCmp, iLe, iLt, iGe, iGt, dMul, iMulT, iMul, iMod, iDiv, gIx, setIx, decide_true, decide_false, decide_eq_true_eq, Bool.not_eq_true, List.length_map, z2, sTryX, length_eq hm ht hz]
theorem told_nm {x y : PyData} (h : isMachine x = false) {s : S} : M__law_told [.p x, .p y] s = .ok (.p (.tuple [.str "machine", .none])) s := by
  have z2 : Mp.sizeOk 2 = true := by decide
  have e1 : emT "NoMachine" "NoMachine" = some true := by decide
  simp [M__law_told, b__law_told, pureRun, onlyP, fnM, mVar, mK, mBin, mUn, mTru, mTest, mAnd, mOr, mNot, mAndV, mOrV, mNotV, mIf, mNil, mCons, mTup, mLst, mLstF, mCall, mChain, mIsi, fIsi, tyD, tyP, mSlice, oNo, oSome, mSeq, srcOf, mRange1, mRange2, sNext, sSeq, sIf, sRet, sRetN, sExpr, sSet, sAsg, sAug, sFor, sRaise, gSet, gMore, gNone, Mp.gTup, mMeth, fAppend, fLen, fInt, truth, ptruth, asB, pp1, pp2, ret1, dIs, isN, allP, frzD, mFrz, Mp.R.bind, R.thn, RS.seq, List.map_cons, List.map_nil, List.cons_append, List.nil_append, List.length_cons, List.length_nil, List.getElem?_cons_zero, List.getElem?_cons_succ, List.getElem?_nil, List.set_cons_zero, List.set_cons_succ, if_true, ite_true, Nat.reduceAdd, Nat.reduceSub, List.replicate, Bool.false_eq_true, if_false, Bool.not_true, Bool.not_false, mp_ft, mp_tf, isTy, beq_self_eq_true, isi0, isi1, isi2, isi3, isi4, isi5, isi6, isi7, isi8, isi9, isi10, isi11, isi12, isi13, isi14, isi15, isi16, isi17, isi18, isi19, isi20, isi21, isi22, isi23, isi24, isi25, isi26, isi27, isi28, isi29, isi30, isi31, isi32, isi33, isi34, isi35, isi36, isi37, isi38, isi39, isi40, isi41, onlyF, dIx_tup, dIx_lst, dIx_ref, ixAt_0, ixAt_1, ixAt_2, ixAt_3, iEq_int, iNe_int, dAdd, iAdd, iSub, iNeg, iCmp, iLe, iLt, iGe, iGt, dMul, iMulT, iMul, iMod, iDiv, gIx, setIx, decide_true, decide_false, decide_eq_true_eq, Bool.not_eq_true, List.length_map, z2, sTryX, length_machine h, hdlX, e1]
theorem told_nt {m : Mac} (hm : m.Ok) {y : PyData} (h : isText m.n y = false) (hz : smallT y = true) {s : S} : M__law_told [.p (eM m), .p y] s = .ok (.p (.tuple [.str "text", .none])) s := by
  have z2 : Mp.sizeOk 2 = true := by decide
  have e1 : emT "NoText" "NoMachine" = some false := by decide
  have e2 : emT "NoText" "NoText" = some true := by decide
  simp [M__law_told, b__law_told, pureRun, onlyP, fnM, mVar, mK, mBin, mUn, mTru, mTest, mAnd, mOr, mNot, mAndV, mOrV, mNotV, mIf, mNil, mCons, mTup, mLst, mLstF, mCall, mChain, mIsi, fIsi, tyD, tyP, mSlice, oNo, oSome, mSeq, srcOf, mRange1, mRange2, sNext, sSeq, sIf, sRet, sRetN, sExpr, sSet, sAsg, sAug, sFor, sRaise, gSet, gMore, gNone, Mp.gTup, mMeth, fAppend, fLen, fInt, truth, ptruth, asB, pp1, pp2, ret1, dIs, isN, allP, frzD, mFrz, Mp.R.bind, R.thn, RS.seq, List.map_cons, List.map_nil, List.cons_append, List.nil_append, List.length_cons, List.length_nil, List.getElem?_cons_zero, List.getElem?_cons_succ, List.getElem?_nil, List.set_cons_zero, List.set_cons_succ, if_true, ite_true, Nat.reduceAdd, Nat.reduceSub, List.replicate, Bool.false_eq_true, if_false, Bool.not_true, Bool.not_false, mp_ft, mp_tf, isTy, beq_self_eq_true, isi0, isi1, isi2, isi3, isi4, isi5, isi6, isi7, isi8, isi9, isi10, isi11, isi12, isi13, isi14, isi15, isi16, isi17, isi18, isi19, isi20, isi21, isi22, isi23, isi24, isi25, isi26, isi27, isi28, isi29, isi30, isi31, isi32, isi33, isi34, isi35, isi36, isi37, isi38, isi39, isi40, isi41, onlyF, dIx_tup, dIx_lst, dIx_ref, ixAt_0, ixAt_1, ixAt_2, ixAt_3, iEq_int, iNe_int, dAdd, iAdd, iSub, iNeg, iCmp, iLe, iLt, iGe, iGt, dMul, iMulT, iMul, iMod, iDiv, gIx, setIx, decide_true, decide_false, decide_eq_true_eq, Bool.not_eq_true, List.length_map, z2, sTryX, length_text hm h hz, hdlX, e1, e2]

/-! _law_parted_right -/
theorem sc__law_parted_right : FnScope ["_law_well_here", "_law_machine_here", "_law_text_here", "_law_at", "_law_more_here", "_law_state", "_law_rest", "_law_whole"] ["_law_well_here", "_law_machine_here", "_law_text_here"] (defScope t__law_parted_right) := ⟨rfl, rfl, rfl, by decide +kernel, rfl, by decide +kernel, by decide +kernel⟩
theorem bn__law_parted_right : BindN "_law_parted_right" t__law_parted_right ["_law_well_here", "_law_machine_here", "_law_text_here"] := fun _ _ _ _ _ _ us hl => match us, hl with | [_, _, _], _ => rfl
noncomputable def b__law_parted_right : MS := (sSeq (sSet 3 (mCall M__law_draw (mCons (mVar 0) (mCons (mBin dAdd (mCall fLen (mCons (mVar 2) mNil)) (mK (.int 1))) mNil)))) (sSeq (sAsg (mCall M__law_read (mCons (mVar 1) (mCons (mSlice (mVar 2) oNo (oSome (mVar 3))) mNil))) (gTup 2 (gMore (gSet 4) (gMore (gSet 5) gNone)))) (sSeq (sIf (mOr (mTest (mBin (dIs true) (mVar 5) (mK .none))) (mTest (mBin (pp2 iGt) (mCall fLen (mCons (mBin dIx (mVar 1) (mK (.int 1))) mNil)) (mK (.int 29))))) (sRet (mK (.bool true))) sNext) (sSeq (sSet 6 (mCall M_length (mCons (mCall M__law_begun_at (mCons (mVar 1) (mCons (mVar 5) mNil))) (mCons (mSlice (mVar 2) (oSome (mVar 3)) oNo) mNil)))) (sSeq (sSet 7 (mCall M_length (mCons (mVar 1) (mCons (mVar 2) mNil)))) (sSeq (sIf (mOr (mTest (mBin (dIs true) (mVar 6) (mK .none))) (mTest (mBin (dIs true) (mVar 7) (mK .none)))) (sRet (mAndV (mBin (dIs true) (mVar 6) (mK .none)) (mBin (dIs true) (mVar 7) (mK .none)))) sNext) (sRet (mBin (pp2 iEq) (mVar 7) (mBin dAdd (mVar 4) (mVar 6))))))))))
theorem raw__law_parted_right (N : Nm K mg) : DefOk P w K mg base "_law_parted_right" 9 3 (fnM 3 8 b__law_parted_right) := def_mk N.d__law_parted_right sc__law_parted_right bn__law_parted_right rfl rfl fun f cdv A outer s H E hr nd tk hp => (ss_cons (s_set (i := 3) nd (e_callS (ok__law_draw N) hr (by decide) tk (a_cons (e_var (i := 0)) (a_cons (e_bin o_add (e_bi b_len rfl N.f_len bt_len (a_cons (e_var (i := 2)) a_nil)) e_int) a_nil)) (argN_cons (argN_cons argN_nil)))) (ss_cons (s_asg (e_callS (ok__law_read N) hr (by decide) tk (a_cons (e_var (i := 1)) (a_cons (e_slice (e_var (i := 2)) p_no (p_some (e_var (i := 3)))) a_nil)) (argN_cons (argN_cons argN_nil))) (g_tup rfl (gs_cons (g_name (i := 4) nd) (gs_cons (g_name (i := 5) nd) gs_nil QuietG.none) (QuietG.more Quiet1.set QuietG.none)))) (ss_cons (s_if (t_w (w_or (t_cmp o_is (e_var (i := 5)) e_none (nomark _)) (w_or1 (t_cmp o_gtP (e_bi b_len rfl N.f_len bt_len (a_cons (e_ix (e_var (i := 1)) e_int) a_nil)) e_int (nomark _))))) (ss_one (s_ret e_bool)) ss_nil) (ss_cons (s_set (i := 6) nd (e_callS (ok_length N) hr (by decide) tk (a_cons (e_callS (ok__law_begun_at N) hr (by decide) tk (a_cons (e_var (i := 1)) (a_cons (e_var (i := 5)) a_nil)) (argN_cons (argN_cons argN_nil))) (a_cons (e_slice (e_var (i := 2)) (p_some (e_var (i := 3))) p_no) a_nil)) (argN_cons (argN_cons argN_nil)))) (ss_cons (s_set (i := 7) nd (e_callS (ok_length N) hr (by decide) tk (a_cons (e_var (i := 1)) (a_cons (e_var (i := 2)) a_nil)) (argN_cons (argN_cons argN_nil)))) (ss_cons (s_if (t_w (w_or (t_cmp o_is (e_var (i := 6)) e_none (nomark _)) (w_or1 (t_cmp o_is (e_var (i := 7)) e_none (nomark _))))) (ss_one (s_ret (e_and (e_cmp o_is (e_var (i := 6)) e_none (nomark _)) (e_one (e_cmp o_is (e_var (i := 7)) e_none (nomark _)))))) ss_nil) (ss_one (s_ret (e_cmp (o_eq hr.units) (e_var (i := 7)) (e_bin o_add (e_var (i := 4)) (e_var (i := 6))) (nomark _))))))))))
noncomputable def M__law_parted_right : List D → S → R D := pureRun (fnM 3 8 b__law_parted_right)
theorem ok__law_parted_right (N : Nm K mg) : DefOk P w K mg base "_law_parted_right" 9 3 M__law_parted_right := (raw__law_parted_right N).alone
theorem parted_w {g w : GH} {m : Mac} (hm : m.Ok) {t : List Nat} (ht : TxOk m.n t) (hz : t.length ≤ 4000) {Q : D → S → Prop} (hw : WA w) (h : ∀ w', WA w' → Q (.p (.bool true)) ⟨g, w'⟩) : Gets (M__law_parted_right [.well 0, .p (eM m), .p (eT t)] ⟨g, w⟩) Q := by
  refine pure_gets rfl ?_
  have e0 : eT t = .tuple (t.map eN) := rfl
  simp only [b__law_parted_right, mVar, mK, mBin, mUn, mTru, mTest, mAnd, mOr, mNot, mAndV, mOrV, mNotV, mIf, mNil, mCons, mTup, mLst, mLstF, mCall, mChain, mIsi, fIsi, tyD, tyP, mSlice, oNo, oSome, mSeq, srcOf, mRange1, mRange2, sNext, sSeq, sIf, sRet, sRetN, sExpr, sSet, sAsg, sAug, sFor, sRaise, gSet, gMore, gNone, Mp.gTup, mMeth, fAppend, fLen, fInt, truth, ptruth, asB, pp1, pp2, ret1, dIs, isN, allP, frzD, mFrz, List.map_cons, List.map_nil, List.cons_append, List.nil_append, List.length_cons, List.length_nil, List.getElem?_cons_zero, List.getElem?_cons_succ, List.getElem?_nil, List.set_cons_zero, List.set_cons_succ, if_true, ite_true, Nat.reduceAdd, Nat.reduceSub, List.replicate, Bool.false_eq_true, if_false, Bool.not_true, Bool.not_false, mp_ft, mp_tf, isTy, beq_self_eq_true, isi0, isi1, isi2, isi3, isi4, isi5, isi6, isi7, isi8, isi9, isi10, isi11, isi12, isi13, isi14, isi15, isi16, isi17, isi18, isi19, isi20, isi21, isi22, isi23, isi24, isi25, isi26, isi27, isi28, isi29, isi30, isi31, isi32, isi33, isi34, isi35, isi36, isi37, isi38, isi39, isi40, isi41, onlyF, dIx_tup, dIx_lst, dIx_ref, ixAt_0, ixAt_1, ixAt_2, ixAt_3, iEq_int, iNe_int, dAdd, iAdd, iSub, iNeg, iCmp, iLe, iLt, iGe, iGt, dMul, iMulT, iMul, iMod, iDiv, gIx, setIx, decide_true, decide_false, decide_eq_true_eq, Bool.not_eq_true, List.length_map, gets_ok, gets_bind, gets_ite, rsw_ite, rsw_seq, rsw_thn, rsw_nx, rsw_ret, rst_x, rsx_seq, rsx_nx, rsx_ret, rsx_brk, rsx_cont, rsx_ite, rsx_thn, gets_fnM, onlyP, Option.map_some, Src.items, e0]
  refine draw_w hw (by omega) (by omega) fun a w1 ha hw1 => ?_
  have ca : cutL t none (some (a : Int)) = t.take a := cut_take
  have cb : cutL t (some (a : Int)) none = t.drop a := cut_drop
  have e1 : PyData.tuple ((t.take a).map eN) = eT (t.take a) := rfl
  have e2 : PyData.tuple ((t.drop a).map eN) = eT (t.drop a) := rfl
  have t1 : TxOk m.n (t.take a) := fun c hc => ht c (List.mem_of_mem_take hc)
  have t2 : TxOk m.n (t.drop a) := fun c hc => ht c (List.mem_of_mem_drop hc)
  simp only [mVar, mK, mBin, mUn, mTru, mTest, mAnd, mOr, mNot, mAndV, mOrV, mNotV, mIf, mNil, mCons, mTup, mLst, mLstF, mCall, mChain, mIsi, fIsi, tyD, tyP, mSlice, oNo, oSome, mSeq, srcOf, mRange1, mRange2, sNext, sSeq, sIf, sRet, sRetN, sExpr, sSet, sAsg, sAug, sFor, sRaise, gSet, gMore, gNone, Mp.gTup, mMeth, fAppend, fLen, fInt, truth, ptruth, asB, pp1, pp2, ret1, dIs, isN, allP, frzD, mFrz, List.map_cons, List.map_nil, List.cons_append, List.nil_append, List.length_cons, List.length_nil, List.getElem?_cons_zero, List.getElem?_cons_succ, List.getElem?_nil, List.set_cons_zero, List.set_cons_succ, if_true, ite_true, Nat.reduceAdd, Nat.reduceSub, List.replicate, Bool.false_eq_true, if_false, Bool.not_true, Bool.not_false, mp_ft, mp_tf, isTy, beq_self_eq_true, isi0, isi1, isi2, isi3, isi4, isi5, isi6, isi7, isi8, isi9, isi10, isi11, isi12, isi13, isi14, isi15, isi16, isi17, isi18, isi19, isi20, isi21, isi22, isi23, isi24, isi25, isi26, isi27, isi28, isi29, isi30, isi31, isi32, isi33, isi34, isi35, isi36, isi37, isi38, isi39, isi40, isi41, onlyF, dIx_tup, dIx_lst, dIx_ref, ixAt_0, ixAt_1, ixAt_2, ixAt_3, iEq_int, iNe_int, dAdd, iAdd, iSub, iNeg, iCmp, iLe, iLt, iGe, iGt, dMul, iMulT, iMul, iMod, iDiv, gIx, setIx, decide_true, decide_false, decide_eq_true_eq, Bool.not_eq_true, List.length_map, gets_ok, gets_bind, gets_ite, rsw_ite, rsw_seq, rsw_thn, rsw_nx, rsw_ret, rst_x, rsx_seq, rsx_nx, rsx_ret, rsx_brk, rsx_cont, rsx_ite, rsx_thn, gets_fnM, onlyP, Option.map_some, Src.items, fSlice, cutL_map, ca, e1, read_eq hm t1]
  have r1 := hm.r1
  have hr : ∀ {f q : Nat}, m.read 0 0 (t.take a) = (f, some q) → q < m.rs.length := fun e => Mac.read_ok hm t1 (by omega) e
  rcases he : m.read 0 0 (t.take a) with ⟨f, _ | q⟩
  · simp only [eRead, eO, mVar, mK, mBin, mUn, mTru, mTest, mAnd, mOr, mNot, mAndV, mOrV, mNotV, mIf, mNil, mCons, mTup, mLst, mLstF, mCall, mChain, mIsi, fIsi, tyD, tyP, mSlice, oNo, oSome, mSeq, srcOf, mRange1, mRange2, sNext, sSeq, sIf, sRet, sRetN, sExpr, sSet, sAsg, sAug, sFor, sRaise, gSet, gMore, gNone, Mp.gTup, mMeth, fAppend, fLen, fInt, truth, ptruth, asB, pp1, pp2, ret1, dIs, isN, allP, frzD, mFrz, List.map_cons, List.map_nil, List.cons_append, List.nil_append, List.length_cons, List.length_nil, List.getElem?_cons_zero, List.getElem?_cons_succ, List.getElem?_nil, List.set_cons_zero, List.set_cons_succ, if_true, ite_true, Nat.reduceAdd, Nat.reduceSub, List.replicate, Bool.false_eq_true, if_false, Bool.not_true, Bool.not_false, mp_ft, mp_tf, isTy, beq_self_eq_true, isi0, isi1, isi2, isi3, isi4, isi5, isi6, isi7, isi8, isi9, isi10, isi11, isi12, isi13, isi14, isi15, isi16, isi17, isi18, isi19, isi20, isi21, isi22, isi23, isi24, isi25, isi26, isi27, isi28, isi29, isi30, isi31, isi32, isi33, isi34, isi35, isi36, isi37, isi38, isi39, isi40, isi41, onlyF, dIx_tup, dIx_lst, dIx_ref, ixAt_0, ixAt_1, ixAt_2, ixAt_3, iEq_int, iNe_int, dAdd, iAdd, iSub, iNeg, iCmp, iLe, iLt, iGe, iGt, dMul, iMulT, iMul, iMod, iDiv, gIx, setIx, decide_true, decide_false, decide_eq_true_eq, Bool.not_eq_true, List.length_map, gets_ok, gets_bind, gets_ite, rsw_ite, rsw_seq, rsw_thn, rsw_nx, rsw_ret, rst_x, rsx_seq, rsx_nx, rsx_ret, rsx_brk, rsx_cont, rsx_ite, rsx_thn, gets_fnM, onlyP, Option.map_some, Src.items]
    exact ⟨_, rfl, h w1 hw1⟩
  · have hq := hr he
    simp only [eRead, eO, mVar, mK, mBin, mUn, mTru, mTest, mAnd, mOr, mNot, mAndV, mOrV, mNotV, mIf, mNil, mCons, mTup, mLst, mLstF, mCall, mChain, mIsi, fIsi, tyD, tyP, mSlice, oNo, oSome, mSeq, srcOf, mRange1, mRange2, sNext, sSeq, sIf, sRet, sRetN, sExpr, sSet, sAsg, sAug, sFor, sRaise, gSet, gMore, gNone, Mp.gTup, mMeth, fAppend, fLen, fInt, truth, ptruth, asB, pp1, pp2, ret1, dIs, isN, allP, frzD, mFrz, List.map_cons, List.map_nil, List.cons_append, List.nil_append, List.length_cons, List.length_nil, List.getElem?_cons_zero, List.getElem?_cons_succ, List.getElem?_nil, List.set_cons_zero, List.set_cons_succ, if_true, ite_true, Nat.reduceAdd, Nat.reduceSub, List.replicate, Bool.false_eq_true, if_false, Bool.not_true, Bool.not_false, mp_ft, mp_tf, isTy, beq_self_eq_true, isi0, isi1, isi2, isi3, isi4, isi5, isi6, isi7, isi8, isi9, isi10, isi11, isi12, isi13, isi14, isi15, isi16, isi17, isi18, isi19, isi20, isi21, isi22, isi23, isi24, isi25, isi26, isi27, isi28, isi29, isi30, isi31, isi32, isi33, isi34, isi35, isi36, isi37, isi38, isi39, isi40, isi41, onlyF, dIx_tup, dIx_lst, dIx_ref, ixAt_0, ixAt_1, ixAt_2, ixAt_3, iEq_int, iNe_int, dAdd, iAdd, iSub, iNeg, iCmp, iLe, iLt, iGe, iGt, dMul, iMulT, iMul, iMod, iDiv, gIx, setIx, decide_true, decide_false, decide_eq_true_eq, Bool.not_eq_true, List.length_map, gets_ok, gets_bind, gets_ite, rsw_ite, rsw_seq, rsw_thn, rsw_nx, rsw_ret, rst_x, rsx_seq, rsx_nx, rsx_ret, rsx_brk, rsx_cont, rsx_ite, rsx_thn, gets_fnM, onlyP, Option.map_some, Src.items, ix_M1]
    by_cases h29 : (m.rs.length : Int) > 29
    · simp only [h29, mVar, mK, mBin, mUn, mTru, mTest, mAnd, mOr, mNot, mAndV, mOrV, mNotV, mIf, mNil, mCons, mTup, mLst, mLstF, mCall, mChain, mIsi, fIsi, tyD, tyP, mSlice, oNo, oSome, mSeq, srcOf, mRange1, mRange2, sNext, sSeq, sIf, sRet, sRetN, sExpr, sSet, sAsg, sAug, sFor, sRaise, gSet, gMore, gNone, Mp.gTup, mMeth, fAppend, fLen, fInt, truth, ptruth, asB, pp1, pp2, ret1, dIs, isN, allP, frzD, mFrz, List.map_cons, List.map_nil, List.cons_append, List.nil_append, List.length_cons, List.length_nil, List.getElem?_cons_zero, List.getElem?_cons_succ, List.getElem?_nil, List.set_cons_zero, List.set_cons_succ, if_true, ite_true, Nat.reduceAdd, Nat.reduceSub, List.replicate, Bool.false_eq_true, if_false, Bool.not_true, Bool.not_false, mp_ft, mp_tf, isTy, beq_self_eq_true, isi0, isi1, isi2, isi3, isi4, isi5, isi6, isi7, isi8, isi9, isi10, isi11, isi12, isi13, isi14, isi15, isi16, isi17, isi18, isi19, isi20, isi21, isi22, isi23, isi24, isi25, isi26, isi27, isi28, isi29, isi30, isi31, isi32, isi33, isi34, isi35, isi36, isi37, isi38, isi39, isi40, isi41, onlyF, dIx_tup, dIx_lst, dIx_ref, ixAt_0, ixAt_1, ixAt_2, ixAt_3, iEq_int, iNe_int, dAdd, iAdd, iSub, iNeg, iCmp, iLe, iLt, iGe, iGt, dMul, iMulT, iMul, iMod, iDiv, gIx, setIx, decide_true, decide_false, decide_eq_true_eq, Bool.not_eq_true, List.length_map, gets_ok, gets_bind, gets_ite, rsw_ite, rsw_seq, rsw_thn, rsw_nx, rsw_ret, rst_x, rsx_seq, rsx_nx, rsx_ret, rsx_brk, rsx_cont, rsx_ite, rsx_thn, gets_fnM, onlyP, Option.map_some, Src.items]
      exact ⟨_, rfl, h w1 hw1⟩
    · have hb := hm.begun hq (by omega)
      have tb : TxOk (m.begun q).n (t.drop a) := t2
      have hl := Mac.len_cut (b := t.drop a) he
      rw [List.take_append_drop, ← Mac.begun_len hm hq t2] at hl
      simp only [h29, mVar, mK, mBin, mUn, mTru, mTest, mAnd, mOr, mNot, mAndV, mOrV, mNotV, mIf, mNil, mCons, mTup, mLst, mLstF, mCall, mChain, mIsi, fIsi, tyD, tyP, mSlice, oNo, oSome, mSeq, srcOf, mRange1, mRange2, sNext, sSeq, sIf, sRet, sRetN, sExpr, sSet, sAsg, sAug, sFor, sRaise, gSet, gMore, gNone, Mp.gTup, mMeth, fAppend, fLen, fInt, truth, ptruth, asB, pp1, pp2, ret1, dIs, isN, allP, frzD, mFrz, List.map_cons, List.map_nil, List.cons_append, List.nil_append, List.length_cons, List.length_nil, List.getElem?_cons_zero, List.getElem?_cons_succ, List.getElem?_nil, List.set_cons_zero, List.set_cons_succ, if_true, ite_true, Nat.reduceAdd, Nat.reduceSub, List.replicate, Bool.false_eq_true, if_false, Bool.not_true, Bool.not_false, mp_ft, mp_tf, isTy, beq_self_eq_true, isi0, isi1, isi2, isi3, isi4, isi5, isi6, isi7, isi8, isi9, isi10, isi11, isi12, isi13, isi14, isi15, isi16, isi17, isi18, isi19, isi20, isi21, isi22, isi23, isi24, isi25, isi26, isi27, isi28, isi29, isi30, isi31, isi32, isi33, isi34, isi35, isi36, isi37, isi38, isi39, isi40, isi41, onlyF, dIx_tup, dIx_lst, dIx_ref, ixAt_0, ixAt_1, ixAt_2, ixAt_3, iEq_int, iNe_int, dAdd, iAdd, iSub, iNeg, iCmp, iLe, iLt, iGe, iGt, dMul, iMulT, iMul, iMod, iDiv, gIx, setIx, decide_true, decide_false, decide_eq_true_eq, Bool.not_eq_true, List.length_map, gets_ok, gets_bind, gets_ite, rsw_ite, rsw_seq, rsw_thn, rsw_nx, rsw_ret, rst_x, rsx_seq, rsx_nx, rsx_ret, rsx_brk, rsx_cont, rsx_ite, rsx_thn, gets_fnM, onlyP, Option.map_some, Src.items, fSlice, cutL_map, cb, e2, begun_eq hm hq, length_eq hb tb (by simp; omega)]
      simp only [← e0, length_eq hm ht (by omega), mVar, mK, mBin, mUn, mTru, mTest, mAnd, mOr, mNot, mAndV, mOrV, mNotV, mIf, mNil, mCons, mTup, mLst, mLstF, mCall, mChain, mIsi, fIsi, tyD, tyP, mSlice, oNo, oSome, mSeq, srcOf, mRange1, mRange2, sNext, sSeq, sIf, sRet, sRetN, sExpr, sSet, sAsg, sAug, sFor, sRaise, gSet, gMore, gNone, Mp.gTup, mMeth, fAppend, fLen, fInt, truth, ptruth, asB, pp1, pp2, ret1, dIs, isN, allP, frzD, mFrz, List.map_cons, List.map_nil, List.cons_append, List.nil_append, List.length_cons, List.length_nil, List.getElem?_cons_zero, List.getElem?_cons_succ, List.getElem?_nil, List.set_cons_zero, List.set_cons_succ, if_true, ite_true, Nat.reduceAdd, Nat.reduceSub, List.replicate, Bool.false_eq_true, if_false, Bool.not_true, Bool.not_false, mp_ft, mp_tf, isTy, beq_self_eq_true, isi0, isi1, isi2, isi3, isi4, isi5, isi6, isi7, isi8, isi9, isi10, isi11, isi12, isi13, isi14, isi15, isi16, isi17, isi18, isi19, isi20, isi21, isi22, isi23, isi24, isi25, isi26, isi27, isi28, isi29, isi30, isi31, isi32, isi33, isi34, isi35, isi36, isi37, isi38, isi39, isi40, isi41, onlyF, dIx_tup, dIx_lst, dIx_ref, ixAt_0, ixAt_1, ixAt_2, ixAt_3, iEq_int, iNe_int, dAdd, iAdd, iSub, iNeg, iCmp, iLe, iLt, iGe, iGt, dMul, iMulT, iMul, iMod, iDiv, gIx, setIx, decide_true, decide_false, decide_eq_true_eq, Bool.not_eq_true, List.length_map, gets_ok, gets_bind, gets_ite, rsw_ite, rsw_seq, rsw_thn, rsw_nx, rsw_ret, rst_x, rsx_seq, rsx_nx, rsx_ret, rsx_brk, rsx_cont, rsx_ite, rsx_thn, gets_fnM, onlyP, Option.map_some, Src.items, hl]
      cases (m.begun q).len (t.drop a) with
      | none =>
        simp only [Option.map_none, eO, mVar, mK, mBin, mUn, mTru, mTest, mAnd, mOr, mNot, mAndV, mOrV, mNotV, mIf, mNil, mCons, mTup, mLst, mLstF, mCall, mChain, mIsi, fIsi, tyD, tyP, mSlice, oNo, oSome, mSeq, srcOf, mRange1, mRange2, sNext, sSeq, sIf, sRet, sRetN, sExpr, sSet, sAsg, sAug, sFor, sRaise, gSet, gMore, gNone, Mp.gTup, mMeth, fAppend, fLen, fInt, truth, ptruth, asB, pp1, pp2, ret1, dIs, isN, allP, frzD, mFrz, List.map_cons, List.map_nil, List.cons_append, List.nil_append, List.length_cons, List.length_nil, List.getElem?_cons_zero, List.getElem?_cons_succ, List.getElem?_nil, List.set_cons_zero, List.set_cons_succ, if_true, ite_true, Nat.reduceAdd, Nat.reduceSub, List.replicate, Bool.false_eq_true, if_false, Bool.not_true, Bool.not_false, mp_ft, mp_tf, isTy, beq_self_eq_true, isi0, isi1, isi2, isi3, isi4, isi5, isi6, isi7, isi8, isi9, isi10, isi11, isi12, isi13, isi14, isi15, isi16, isi17, isi18, isi19, isi20, isi21, isi22, isi23, isi24, isi25, isi26, isi27, isi28, isi29, isi30, isi31, isi32, isi33, isi34, isi35, isi36, isi37, isi38, isi39, isi40, isi41, onlyF, dIx_tup, dIx_lst, dIx_ref, ixAt_0, ixAt_1, ixAt_2, ixAt_3, iEq_int, iNe_int, dAdd, iAdd, iSub, iNeg, iCmp, iLe, iLt, iGe, iGt, dMul, iMulT, iMul, iMod, iDiv, gIx, setIx, decide_true, decide_false, decide_eq_true_eq, Bool.not_eq_true, List.length_map, gets_ok, gets_bind, gets_ite, rsw_ite, rsw_seq, rsw_thn, rsw_nx, rsw_ret, rst_x, rsx_seq, rsx_nx, rsx_ret, rsx_brk, rsx_cont, rsx_ite, rsx_thn, gets_fnM, onlyP, Option.map_some, Src.items]
        exact ⟨_, rfl, h w1 hw1⟩
      | some v =>
        simp only [Option.map_some, eO, mVar, mK, mBin, mUn, mTru, mTest, mAnd, mOr, mNot, mAndV, mOrV, mNotV, mIf, mNil, mCons, mTup, mLst, mLstF, mCall, mChain, mIsi, fIsi, tyD, tyP, mSlice, oNo, oSome, mSeq, srcOf, mRange1, mRange2, sNext, sSeq, sIf, sRet, sRetN, sExpr, sSet, sAsg, sAug, sFor, sRaise, gSet, gMore, gNone, Mp.gTup, mMeth, fAppend, fLen, fInt, truth, ptruth, asB, pp1, pp2, ret1, dIs, isN, allP, frzD, mFrz, List.map_cons, List.map_nil, List.cons_append, List.nil_append, List.length_cons, List.length_nil, List.getElem?_cons_zero, List.getElem?_cons_succ, List.getElem?_nil, List.set_cons_zero, List.set_cons_succ, if_true, ite_true, Nat.reduceAdd, Nat.reduceSub, List.replicate, Bool.false_eq_true, if_false, Bool.not_true, Bool.not_false, mp_ft, mp_tf, isTy, beq_self_eq_true, isi0, isi1, isi2, isi3, isi4, isi5, isi6, isi7, isi8, isi9, isi10, isi11, isi12, isi13, isi14, isi15, isi16, isi17, isi18, isi19, isi20, isi21, isi22, isi23, isi24, isi25, isi26, isi27, isi28, isi29, isi30, isi31, isi32, isi33, isi34, isi35, isi36, isi37, isi38, isi39, isi40, isi41, onlyF, dIx_tup, dIx_lst, dIx_ref, ixAt_0, ixAt_1, ixAt_2, ixAt_3, iEq_int, iNe_int, dAdd, iAdd, iSub, iNeg, iCmp, iLe, iLt, iGe, iGt, dMul, iMulT, iMul, iMod, iDiv, gIx, setIx, decide_true, decide_false, decide_eq_true_eq, Bool.not_eq_true, List.length_map, gets_ok, gets_bind, gets_ite, rsw_ite, rsw_seq, rsw_thn, rsw_nx, rsw_ret, rst_x, rsx_seq, rsx_nx, rsx_ret, rsx_brk, rsx_cont, rsx_ite, rsx_thn, gets_fnM, onlyP, Option.map_some, Src.items]
        refine ⟨_, rfl, ?_⟩
        have : ((f + v : Nat) : Int) = (f : Int) + (v : Int) := by omega
        simp only [this, decide_true]
        exact h w1 hw1

/-! _law_odd_right -/
theorem sc__law_odd_right : FnScope ["_law_well_here", "_law_machine_here", "_law_text_here", "_law_odd", "_law_other", "_law_told_here"] ["_law_well_here", "_law_machine_here", "_law_text_here"] (defScope t__law_odd_right) := ⟨rfl, rfl, rfl, by decide +kernel, rfl, by decide +kernel, by decide +kernel⟩
theorem bn__law_odd_right : BindN "_law_odd_right" t__law_odd_right ["_law_well_here", "_law_machine_here", "_law_text_here"] := fun _ _ _ _ _ _ us hl => match us, hl with | [_, _, _], _ => rfl
noncomputable def b__law_odd_right : MS := (sSeq (sSet 3 (mBin dIx (mLstF (mCons (mVar 1) (mCons (mCall M__law_spoilt (mCons (mVar 1) (mCons (mCall M__law_draw (mCons (mVar 0) (mCons (mCall M__law_nodes (mCons (mVar 1) mNil)) mNil))) (mCons (mVar 0) mNil)))) mNil))) (mCall M__law_draw (mCons (mVar 0) (mCons (mK (.int 2)) mNil))))) (sSeq (sSet 4 (mCall M__law_spoilt (mCons (mVar 2) (mCons (mCall M__law_draw (mCons (mVar 0) (mCons (mCall M__law_nodes (mCons (mVar 2) mNil)) mNil))) (mCons (mVar 0) mNil))))) (sSeq (sSet 5 (mCall M__law_told (mCons (mVar 3) (mCons (mVar 4) mNil)))) (sSeq (sIf (mNot (mTru (mCall M__law_machine_fits (mCons (mVar 3) mNil)))) (sRet (mBin (pp2 iEq) (mVar 5) (mTup (mCons (mK (.str "machine")) (mCons (mK .none) mNil))))) sNext) (sSeq (sIf (mNot (mTru (mCall M__law_text_fits (mCons (mBin dIx (mVar 3) (mK (.int 0))) (mCons (mVar 4) mNil))))) (sRet (mBin (pp2 iEq) (mVar 5) (mTup (mCons (mK (.str "text")) (mCons (mK .none) mNil))))) sNext) (sRet (mBin (pp2 iEq) (mVar 5) (mTup (mCons (mK (.str "told")) (mCons (mCall M__law_due (mCons (mVar 3) (mCons (mVar 4) mNil))) mNil))))))))))
theorem raw__law_odd_right (N : Nm K mg) : DefOk P w K mg base "_law_odd_right" 85 3 (fnM 3 6 b__law_odd_right) := def_mk N.d__law_odd_right sc__law_odd_right bn__law_odd_right rfl rfl fun f cdv A outer s H E hr nd tk hp => (ss_cons (s_set (i := 3) nd (e_ix (e_lstF (a_cons (e_var (i := 1)) (a_cons (e_callS (ok__law_spoilt N) hr (by decide) tk (a_cons (e_var (i := 1)) (a_cons (e_callS (ok__law_draw N) hr (by decide) tk (a_cons (e_var (i := 0)) (a_cons (e_callS (ok__law_nodes N) hr (by decide) tk (a_cons (e_var (i := 1)) a_nil) (argN_cons argN_nil)) a_nil)) (argN_cons (argN_cons argN_nil))) (a_cons (e_var (i := 0)) a_nil))) (argN_cons (argN_cons (argN_cons argN_nil)))) a_nil))) (e_callS (ok__law_draw N) hr (by decide) tk (a_cons (e_var (i := 0)) (a_cons e_int a_nil)) (argN_cons (argN_cons argN_nil))))) (ss_cons (s_set (i := 4) nd (e_callS (ok__law_spoilt N) hr (by decide) tk (a_cons (e_var (i := 2)) (a_cons (e_callS (ok__law_draw N) hr (by decide) tk (a_cons (e_var (i := 0)) (a_cons (e_callS (ok__law_nodes N) hr (by decide) tk (a_cons (e_var (i := 2)) a_nil) (argN_cons argN_nil)) a_nil)) (argN_cons (argN_cons argN_nil))) (a_cons (e_var (i := 0)) a_nil))) (argN_cons (argN_cons (argN_cons argN_nil))))) (ss_cons (s_set (i := 5) nd (e_callS (ok__law_told N) hr (by decide) tk (a_cons (e_var (i := 3)) (a_cons (e_var (i := 4)) a_nil)) (argN_cons (argN_cons argN_nil)))) (ss_cons (s_if (t_not (t_tru (e_callS (ok__law_machine_fits N) hr (by decide) tk (a_cons (e_var (i := 3)) a_nil) (argN_cons argN_nil)))) (ss_one (s_ret (e_cmp (o_eq hr.units) (e_var (i := 5)) (e_tup (a_cons e_str (a_cons e_none a_nil))) (nomark _)))) ss_nil) (ss_cons (s_if (t_not (t_tru (e_callS (ok__law_text_fits N) hr (by decide) tk (a_cons (e_ix (e_var (i := 3)) e_int) (a_cons (e_var (i := 4)) a_nil)) (argN_cons (argN_cons argN_nil))))) (ss_one (s_ret (e_cmp (o_eq hr.units) (e_var (i := 5)) (e_tup (a_cons e_str (a_cons e_none a_nil))) (nomark _)))) ss_nil) (ss_one (s_ret (e_cmp (o_eq hr.units) (e_var (i := 5)) (e_tup (a_cons e_str (a_cons (e_callS (ok__law_due N) hr (by decide) tk (a_cons (e_var (i := 3)) (a_cons (e_var (i := 4)) a_nil)) (argN_cons (argN_cons argN_nil))) a_nil))) (nomark _)))))))))
noncomputable def M__law_odd_right : List D → S → R D := pureRun (fnM 3 6 b__law_odd_right)
theorem ok__law_odd_right (N : Nm K mg) : DefOk P w K mg base "_law_odd_right" 85 3 M__law_odd_right := (raw__law_odd_right N).alone
theorem odd_w {g w : GH} {m : Mac} (hm : m.Ok) {t : List Nat} (ht : TxOk m.n t) (hz : t.length ≤ 100) {Q : D → S → Prop} (hw : WA w) (h : ∀ w', WA w' → Q (.p (.bool true)) ⟨g, w'⟩) : Gets (M__law_odd_right [.well 0, .p (eM m), .p (eT t)] ⟨g, w⟩) Q := by
  refine pure_gets rfl ?_
  have z2 : Mp.sizeOk 2 = true := by decide
  have nm : ∀ s, M__law_nodes [.p (eM m)] s = .ok (.p (.int (nds 5 (eM m)))) s := fun s => nodes_eq (A := 30) (by omega) (by omega) (fl_eM hm)
  have nt : ∀ s, M__law_nodes [.p (eT t)] s = .ok (.p (.int (nds 1 (eT t)))) s := fun s => nodes_eq (A := 100) (by omega) (by omega) (fl_eT hz)
  have bm := nds_le (fl_eM hm)
  have bt := nds_le (fl_eT (A := 100) hz)
  have pm := nds_pos 5 (eM m)
  have pt := nds_pos 1 (eT t)
  simp only [b__law_odd_right, mVar, mK, mBin, mUn, mTru, mTest, mAnd, mOr, mNot, mAndV, mOrV, mNotV, mIf, mNil, mCons, mTup, mLst, mLstF, mCall, mChain, mIsi, fIsi, tyD, tyP, mSlice, oNo, oSome, mSeq, srcOf, mRange1, mRange2, sNext, sSeq, sIf, sRet, sRetN, sExpr, sSet, sAsg, sAug, sFor, sRaise, gSet, gMore, gNone, Mp.gTup, mMeth, fAppend, fLen, fInt, truth, ptruth, asB, pp1, pp2, ret1, dIs, isN, allP, frzD, mFrz, List.map_cons, List.map_nil, List.cons_append, List.nil_append, List.length_cons, List.length_nil, List.getElem?_cons_zero, List.getElem?_cons_succ, List.getElem?_nil, List.set_cons_zero, List.set_cons_succ, if_true, ite_true, Nat.reduceAdd, Nat.reduceSub, List.replicate, Bool.false_eq_true, if_false, Bool.not_true, Bool.not_false, mp_ft, mp_tf, isTy, beq_self_eq_true, isi0, isi1, isi2, isi3, isi4, isi5, isi6, isi7, isi8, isi9, isi10, isi11, isi12, isi13, isi14, isi15, isi16, isi17, isi18, isi19, isi20, isi21, isi22, isi23, isi24, isi25, isi26, isi27, isi28, isi29, isi30, isi31, isi32, isi33, isi34, isi35, isi36, isi37, isi38, isi39, isi40, isi41, onlyF, dIx_tup, dIx_lst, dIx_ref, ixAt_0, ixAt_1, ixAt_2, ixAt_3, iEq_int, iNe_int, dAdd, iAdd, iSub, iNeg, iCmp, iLe, iLt, iGe, iGt, dMul, iMulT, iMul, iMod, iDiv, gIx, setIx, decide_true, decide_false, decide_eq_true_eq, Bool.not_eq_true, List.length_map, gets_ok, gets_bind, gets_ite, rsw_ite, rsw_seq, rsw_thn, rsw_nx, rsw_ret, rst_x, rsx_seq, rsx_nx, rsx_ret, rsx_brk, rsx_cont, rsx_ite, rsx_thn, gets_fnM, onlyP, Option.map_some, Src.items, nm]
  refine draw_w hw (by omega) (by omega) fun a w1 ha hw1 => ?_
  try simp only [mVar, mK, mBin, mUn, mTru, mTest, mAnd, mOr, mNot, mAndV, mOrV, mNotV, mIf, mNil, mCons, mTup, mLst, mLstF, mCall, mChain, mIsi, fIsi, tyD, tyP, mSlice, oNo, oSome, mSeq, srcOf, mRange1, mRange2, sNext, sSeq, sIf, sRet, sRetN, sExpr, sSet, sAsg, sAug, sFor, sRaise, gSet, gMore, gNone, Mp.gTup, mMeth, fAppend, fLen, fInt, truth, ptruth, asB, pp1, pp2, ret1, dIs, isN, allP, frzD, mFrz, List.map_cons, List.map_nil, List.cons_append, List.nil_append, List.length_cons, List.length_nil, List.getElem?_cons_zero, List.getElem?_cons_succ, List.getElem?_nil, List.set_cons_zero, List.set_cons_succ, if_true, ite_true, Nat.reduceAdd, Nat.reduceSub, List.replicate, Bool.false_eq_true, if_false, Bool.not_true, Bool.not_false, mp_ft, mp_tf, isTy, beq_self_eq_true, isi0, isi1, isi2, isi3, isi4, isi5, isi6, isi7, isi8, isi9, isi10, isi11, isi12, isi13, isi14, isi15, isi16, isi17, isi18, isi19, isi20, isi21, isi22, isi23, isi24, isi25, isi26, isi27, isi28, isi29, isi30, isi31, isi32, isi33, isi34, isi35, isi36, isi37, isi38, isi39, isi40, isi41, onlyF, dIx_tup, dIx_lst, dIx_ref, ixAt_0, ixAt_1, ixAt_2, ixAt_3, iEq_int, iNe_int, dAdd, iAdd, iSub, iNeg, iCmp, iLe, iLt, iGe, iGt, dMul, iMulT, iMul, iMod, iDiv, gIx, setIx, decide_true, decide_false, decide_eq_true_eq, Bool.not_eq_true, List.length_map, gets_ok, gets_bind, gets_ite, rsw_ite, rsw_seq, rsw_thn, rsw_nx, rsw_ret, rst_x, rsx_seq, rsx_nx, rsx_ret, rsx_brk, rsx_cont, rsx_ite, rsx_thn, gets_fnM, onlyP, Option.map_some, Src.items]
  refine spoilt_w (A := 30) (d := 5) (by omega) (by omega) (fl_eM hm) (by omega) hw1 fun y w2 hy hw2 => ?_
  simp only [mVar, mK, mBin, mUn, mTru, mTest, mAnd, mOr, mNot, mAndV, mOrV, mNotV, mIf, mNil, mCons, mTup, mLst, mLstF, mCall, mChain, mIsi, fIsi, tyD, tyP, mSlice, oNo, oSome, mSeq, srcOf, mRange1, mRange2, sNext, sSeq, sIf, sRet, sRetN, sExpr, sSet, sAsg, sAug, sFor, sRaise, gSet, gMore, gNone, Mp.gTup, mMeth, fAppend, fLen, fInt, truth, ptruth, asB, pp1, pp2, ret1, dIs, isN, allP, frzD, mFrz, List.map_cons, List.map_nil, List.cons_append, List.nil_append, List.length_cons, List.length_nil, List.getElem?_cons_zero, List.getElem?_cons_succ, List.getElem?_nil, List.set_cons_zero, List.set_cons_succ, if_true, ite_true, Nat.reduceAdd, Nat.reduceSub, List.replicate, Bool.false_eq_true, if_false, Bool.not_true, Bool.not_false, mp_ft, mp_tf, isTy, beq_self_eq_true, isi0, isi1, isi2, isi3, isi4, isi5, isi6, isi7, isi8, isi9, isi10, isi11, isi12, isi13, isi14, isi15, isi16, isi17, isi18, isi19, isi20, isi21, isi22, isi23, isi24, isi25, isi26, isi27, isi28, isi29, isi30, isi31, isi32, isi33, isi34, isi35, isi36, isi37, isi38, isi39, isi40, isi41, onlyF, dIx_tup, dIx_lst, dIx_ref, ixAt_0, ixAt_1, ixAt_2, ixAt_3, iEq_int, iNe_int, dAdd, iAdd, iSub, iNeg, iCmp, iLe, iLt, iGe, iGt, dMul, iMulT, iMul, iMod, iDiv, gIx, setIx, decide_true, decide_false, decide_eq_true_eq, Bool.not_eq_true, List.length_map, gets_ok, gets_bind, gets_ite, rsw_ite, rsw_seq, rsw_thn, rsw_nx, rsw_ret, rst_x, rsx_seq, rsx_nx, rsx_ret, rsx_brk, rsx_cont, rsx_ite, rsx_thn, gets_fnM, onlyP, Option.map_some, Src.items, z2]
  refine draw_w hw2 (by omega) (by omega) fun b w3 hb hw3 => ?_
  try simp only [mVar, mK, mBin, mUn, mTru, mTest, mAnd, mOr, mNot, mAndV, mOrV, mNotV, mIf, mNil, mCons, mTup, mLst, mLstF, mCall, mChain, mIsi, fIsi, tyD, tyP, mSlice, oNo, oSome, mSeq, srcOf, mRange1, mRange2, sNext, sSeq, sIf, sRet, sRetN, sExpr, sSet, sAsg, sAug, sFor, sRaise, gSet, gMore, gNone, Mp.gTup, mMeth, fAppend, fLen, fInt, truth, ptruth, asB, pp1, pp2, ret1, dIs, isN, allP, frzD, mFrz, List.map_cons, List.map_nil, List.cons_append, List.nil_append, List.length_cons, List.length_nil, List.getElem?_cons_zero, List.getElem?_cons_succ, List.getElem?_nil, List.set_cons_zero, List.set_cons_succ, if_true, ite_true, Nat.reduceAdd, Nat.reduceSub, List.replicate, Bool.false_eq_true, if_false, Bool.not_true, Bool.not_false, mp_ft, mp_tf, isTy, beq_self_eq_true, isi0, isi1, isi2, isi3, isi4, isi5, isi6, isi7, isi8, isi9, isi10, isi11, isi12, isi13, isi14, isi15, isi16, isi17, isi18, isi19, isi20, isi21, isi22, isi23, isi24, isi25, isi26, isi27, isi28, isi29, isi30, isi31, isi32, isi33, isi34, isi35, isi36, isi37, isi38, isi39, isi40, isi41, onlyF, dIx_tup, dIx_lst, dIx_ref, ixAt_0, ixAt_1, ixAt_2, ixAt_3, iEq_int, iNe_int, dAdd, iAdd, iSub, iNeg, iCmp, iLe, iLt, iGe, iGt, dMul, iMulT, iMul, iMod, iDiv, gIx, setIx, decide_true, decide_false, decide_eq_true_eq, Bool.not_eq_true, List.length_map, gets_ok, gets_bind, gets_ite, rsw_ite, rsw_seq, rsw_thn, rsw_nx, rsw_ret, rst_x, rsx_seq, rsx_nx, rsx_ret, rsx_brk, rsx_cont, rsx_ite, rsx_thn, gets_fnM, onlyP, Option.map_some, Src.items]
  refine ix_w (xs := [eM m, y]) (by simp; omega) fun x hx => ?_
  clear hx
  simp only [mVar, mK, mBin, mUn, mTru, mTest, mAnd, mOr, mNot, mAndV, mOrV, mNotV, mIf, mNil, mCons, mTup, mLst, mLstF, mCall, mChain, mIsi, fIsi, tyD, tyP, mSlice, oNo, oSome, mSeq, srcOf, mRange1, mRange2, sNext, sSeq, sIf, sRet, sRetN, sExpr, sSet, sAsg, sAug, sFor, sRaise, gSet, gMore, gNone, Mp.gTup, mMeth, fAppend, fLen, fInt, truth, ptruth, asB, pp1, pp2, ret1, dIs, isN, allP, frzD, mFrz, List.map_cons, List.map_nil, List.cons_append, List.nil_append, List.length_cons, List.length_nil, List.getElem?_cons_zero, List.getElem?_cons_succ, List.getElem?_nil, List.set_cons_zero, List.set_cons_succ, if_true, ite_true, Nat.reduceAdd, Nat.reduceSub, List.replicate, Bool.false_eq_true, if_false, Bool.not_true, Bool.not_false, mp_ft, mp_tf, isTy, beq_self_eq_true, isi0, isi1, isi2, isi3, isi4, isi5, isi6, isi7, isi8, isi9, isi10, isi11, isi12, isi13, isi14, isi15, isi16, isi17, isi18, isi19, isi20, isi21, isi22, isi23, isi24, isi25, isi26, isi27, isi28, isi29, isi30, isi31, isi32, isi33, isi34, isi35, isi36, isi37, isi38, isi39, isi40, isi41, onlyF, dIx_tup, dIx_lst, dIx_ref, ixAt_0, ixAt_1, ixAt_2, ixAt_3, iEq_int, iNe_int, dAdd, iAdd, iSub, iNeg, iCmp, iLe, iLt, iGe, iGt, dMul, iMulT, iMul, iMod, iDiv, gIx, setIx, decide_true, decide_false, decide_eq_true_eq, Bool.not_eq_true, List.length_map, gets_ok, gets_bind, gets_ite, rsw_ite, rsw_seq, rsw_thn, rsw_nx, rsw_ret, rst_x, rsx_seq, rsx_nx, rsx_ret, rsx_brk, rsx_cont, rsx_ite, rsx_thn, gets_fnM, onlyP, Option.map_some, Src.items, nt]
  refine draw_w hw3 (by omega) (by omega) fun c w4 hc hw4 => ?_
  try simp only [mVar, mK, mBin, mUn, mTru, mTest, mAnd, mOr, mNot, mAndV, mOrV, mNotV, mIf, mNil, mCons, mTup, mLst, mLstF, mCall, mChain, mIsi, fIsi, tyD, tyP, mSlice, oNo, oSome, mSeq, srcOf, mRange1, mRange2, sNext, sSeq, sIf, sRet, sRetN, sExpr, sSet, sAsg, sAug, sFor, sRaise, gSet, gMore, gNone, Mp.gTup, mMeth, fAppend, fLen, fInt, truth, ptruth, asB, pp1, pp2, ret1, dIs, isN, allP, frzD, mFrz, List.map_cons, List.map_nil, List.cons_append, List.nil_append, List.length_cons, List.length_nil, List.getElem?_cons_zero, List.getElem?_cons_succ, List.getElem?_nil, List.set_cons_zero, List.set_cons_succ, if_true, ite_true, Nat.reduceAdd, Nat.reduceSub, List.replicate, Bool.false_eq_true, if_false, Bool.not_true, Bool.not_false, mp_ft, mp_tf, isTy, beq_self_eq_true, isi0, isi1, isi2, isi3, isi4, isi5, isi6, isi7, isi8, isi9, isi10, isi11, isi12, isi13, isi14, isi15, isi16, isi17, isi18, isi19, isi20, isi21, isi22, isi23, isi24, isi25, isi26, isi27, isi28, isi29, isi30, isi31, isi32, isi33, isi34, isi35, isi36, isi37, isi38, isi39, isi40, isi41, onlyF, dIx_tup, dIx_lst, dIx_ref, ixAt_0, ixAt_1, ixAt_2, ixAt_3, iEq_int, iNe_int, dAdd, iAdd, iSub, iNeg, iCmp, iLe, iLt, iGe, iGt, dMul, iMulT, iMul, iMod, iDiv, gIx, setIx, decide_true, decide_false, decide_eq_true_eq, Bool.not_eq_true, List.length_map, gets_ok, gets_bind, gets_ite, rsw_ite, rsw_seq, rsw_thn, rsw_nx, rsw_ret, rst_x, rsx_seq, rsx_nx, rsx_ret, rsx_brk, rsx_cont, rsx_ite, rsx_thn, gets_fnM, onlyP, Option.map_some, Src.items]
  refine spoilt_w (A := 100) (d := 1) (by omega) (by omega) (fl_eT hz) (by omega) hw4 fun u w5 hu hw5 => ?_
  have k1 : PyData.strOk "machine" = true := by decide +kernel
  have k2 : PyData.strOk "text" = true := by decide +kernel
  have k3 : PyData.strOk "told" = true := by decide +kernel
  cases hx : isMachine x with
  | false =>
    simp only [mVar, mK, mBin, mUn, mTru, mTest, mAnd, mOr, mNot, mAndV, mOrV, mNotV, mIf, mNil, mCons, mTup, mLst, mLstF, mCall, mChain, mIsi, fIsi, tyD, tyP, mSlice, oNo, oSome, mSeq, srcOf, mRange1, mRange2, sNext, sSeq, sIf, sRet, sRetN, sExpr, sSet, sAsg, sAug, sFor, sRaise, gSet, gMore, gNone, Mp.gTup, mMeth, fAppend, fLen, fInt, truth, ptruth, asB, pp1, pp2, ret1, dIs, isN, allP, frzD, mFrz, List.map_cons, List.map_nil, List.cons_append, List.nil_append, List.length_cons, List.length_nil, List.getElem?_cons_zero, List.getElem?_cons_succ, List.getElem?_nil, List.set_cons_zero, List.set_cons_succ, if_true, ite_true, Nat.reduceAdd, Nat.reduceSub, List.replicate, Bool.false_eq_true, if_false, Bool.not_true, Bool.not_false, mp_ft, mp_tf, isTy, beq_self_eq_true, isi0, isi1, isi2, isi3, isi4, isi5, isi6, isi7, isi8, isi9, isi10, isi11, isi12, isi13, isi14, isi15, isi16, isi17, isi18, isi19, isi20, isi21, isi22, isi23, isi24, isi25, isi26, isi27, isi28, isi29, isi30, isi31, isi32, isi33, isi34, isi35, isi36, isi37, isi38, isi39, isi40, isi41, onlyF, dIx_tup, dIx_lst, dIx_ref, ixAt_0, ixAt_1, ixAt_2, ixAt_3, iEq_int, iNe_int, dAdd, iAdd, iSub, iNeg, iCmp, iLe, iLt, iGe, iGt, dMul, iMulT, iMul, iMod, iDiv, gIx, setIx, decide_true, decide_false, decide_eq_true_eq, Bool.not_eq_true, List.length_map, gets_ok, gets_bind, gets_ite, rsw_ite, rsw_seq, rsw_thn, rsw_nx, rsw_ret, rst_x, rsx_seq, rsx_nx, rsx_ret, rsx_brk, rsx_cont, rsx_ite, rsx_thn, gets_fnM, onlyP, Option.map_some, Src.items, told_nm hx, M__law_machine_fits, hx, z2, iEq_tagN k1]
    exact ⟨_, rfl, h w5 hw5⟩
  | true =>
    obtain ⟨m', hm', rfl⟩ := isMachine_of hx
    cases hu' : isText m'.n u with
    | false =>
      simp only [mVar, mK, mBin, mUn, mTru, mTest, mAnd, mOr, mNot, mAndV, mOrV, mNotV, mIf, mNil, mCons, mTup, mLst, mLstF, mCall, mChain, mIsi, fIsi, tyD, tyP, mSlice, oNo, oSome, mSeq, srcOf, mRange1, mRange2, sNext, sSeq, sIf, sRet, sRetN, sExpr, sSet, sAsg, sAug, sFor, sRaise, gSet, gMore, gNone, Mp.gTup, mMeth, fAppend, fLen, fInt, truth, ptruth, asB, pp1, pp2, ret1, dIs, isN, allP, frzD, mFrz, List.map_cons, List.map_nil, List.cons_append, List.nil_append, List.length_cons, List.length_nil, List.getElem?_cons_zero, List.getElem?_cons_succ, List.getElem?_nil, List.set_cons_zero, List.set_cons_succ, if_true, ite_true, Nat.reduceAdd, Nat.reduceSub, List.replicate, Bool.false_eq_true, if_false, Bool.not_true, Bool.not_false, mp_ft, mp_tf, isTy, beq_self_eq_true, isi0, isi1, isi2, isi3, isi4, isi5, isi6, isi7, isi8, isi9, isi10, isi11, isi12, isi13, isi14, isi15, isi16, isi17, isi18, isi19, isi20, isi21, isi22, isi23, isi24, isi25, isi26, isi27, isi28, isi29, isi30, isi31, isi32, isi33, isi34, isi35, isi36, isi37, isi38, isi39, isi40, isi41, onlyF, dIx_tup, dIx_lst, dIx_ref, ixAt_0, ixAt_1, ixAt_2, ixAt_3, iEq_int, iNe_int, dAdd, iAdd, iSub, iNeg, iCmp, iLe, iLt, iGe, iGt, dMul, iMulT, iMul, iMod, iDiv, gIx, setIx, decide_true, decide_false, decide_eq_true_eq, Bool.not_eq_true, List.length_map, gets_ok, gets_bind, gets_ite, rsw_ite, rsw_seq, rsw_thn, rsw_nx, rsw_ret, rst_x, rsx_seq, rsx_nx, rsx_ret, rsx_brk, rsx_cont, rsx_ite, rsx_thn, gets_fnM, onlyP, Option.map_some, Src.items, told_nt hm' hu' hu, M__law_machine_fits, hx, ix_M0, M__law_text_fits, hu, hu', z2, iEq_tagN k2]
      exact ⟨_, rfl, h w5 hw5⟩
    | true =>
      obtain ⟨t', ht', rfl⟩ := isText_of hu'
      have hl : t'.length ≤ 16777216 := by
        rw [smallT_eT] at hu
        exact of_decide_eq_true hu
      simp only [mVar, mK, mBin, mUn, mTru, mTest, mAnd, mOr, mNot, mAndV, mOrV, mNotV, mIf, mNil, mCons, mTup, mLst, mLstF, mCall, mChain, mIsi, fIsi, tyD, tyP, mSlice, oNo, oSome, mSeq, srcOf, mRange1, mRange2, sNext, sSeq, sIf, sRet, sRetN, sExpr, sSet, sAsg, sAug, sFor, sRaise, gSet, gMore, gNone, Mp.gTup, mMeth, fAppend, fLen, fInt, truth, ptruth, asB, pp1, pp2, ret1, dIs, isN, allP, frzD, mFrz, List.map_cons, List.map_nil, List.cons_append, List.nil_append, List.length_cons, List.length_nil, List.getElem?_cons_zero, List.getElem?_cons_succ, List.getElem?_nil, List.set_cons_zero, List.set_cons_succ, if_true, ite_true, Nat.reduceAdd, Nat.reduceSub, List.replicate, Bool.false_eq_true, if_false, Bool.not_true, Bool.not_false, mp_ft, mp_tf, isTy, beq_self_eq_true, isi0, isi1, isi2, isi3, isi4, isi5, isi6, isi7, isi8, isi9, isi10, isi11, isi12, isi13, isi14, isi15, isi16, isi17, isi18, isi19, isi20, isi21, isi22, isi23, isi24, isi25, isi26, isi27, isi28, isi29, isi30, isi31, isi32, isi33, isi34, isi35, isi36, isi37, isi38, isi39, isi40, isi41, onlyF, dIx_tup, dIx_lst, dIx_ref, ixAt_0, ixAt_1, ixAt_2, ixAt_3, iEq_int, iNe_int, dAdd, iAdd, iSub, iNeg, iCmp, iLe, iLt, iGe, iGt, dMul, iMulT, iMul, iMod, iDiv, gIx, setIx, decide_true, decide_false, decide_eq_true_eq, Bool.not_eq_true, List.length_map, gets_ok, gets_bind, gets_ite, rsw_ite, rsw_seq, rsw_thn, rsw_nx, rsw_ret, rst_x, rsx_seq, rsx_nx, rsx_ret, rsx_brk, rsx_cont, rsx_ite, rsx_thn, gets_fnM, onlyP, Option.map_some, Src.items, told_fit hm' ht' hl, M__law_machine_fits, hx, ix_M0, M__law_text_fits, hu, hu', due_eq hm' ht', z2, iEq_tagO k3]
      exact ⟨_, rfl, h w5 hw5⟩

/-! law -/
theorem sc_law : FnScope ["_law_script", "_law_well_here", "_law_machine_here", "_law_turn", "_law_text_here", "_law_told_here"] ["_law_script"] (defScope t_law) := ⟨rfl, rfl, rfl, by decide +kernel, rfl, by decide +kernel, by decide +kernel⟩
theorem bn_law : BindN "law" t_law ["_law_script"] := fun _ _ _ _ _ _ us hl => match us, hl with | [_], _ => rfl
noncomputable def b_law : MS := (sSeq (sSet 1 (mCall M__law_well (mCons (mVar 0) mNil))) (sSeq (sSet 2 (mCall M__law_machine (mCons (mVar 1) mNil))) (sSeq (sFor (mRange1 (mK (.int 6))) (gSet 3) (sSeq (sSet 4 (mCall M__law_text (mCons (mVar 1) (mCons (mVar 2) mNil)))) (sSeq (sSet 5 (mCall M_length (mCons (mVar 2) (mCons (mVar 4) mNil)))) (sSeq (sIf (mOr (mTest (mBin (pp2 iNe) (mVar 5) (mCall M__law_due (mCons (mVar 2) (mCons (mVar 4) mNil))))) (mTru (mIsi "bool" (mVar 5)))) (sRet (mK (.bool false))) sNext) (sSeq (sIf (mNot (mTru (mCall M__law_parted_right (mCons (mVar 1) (mCons (mVar 2) (mCons (mVar 4) mNil)))))) (sRet (mK (.bool false))) sNext) (sIf (mAnd (mTest (mBin (pp2 iLt) (mCall fLen (mCons (mVar 4) mNil)) (mK (.int 100)))) (mNot (mTru (mCall M__law_odd_right (mCons (mVar 1) (mCons (mVar 2) (mCons (mVar 4) mNil))))))) (sRet (mK (.bool false))) sNext)))))) (sRet (mK (.bool true))))))
noncomputable def M_law : List D → S → R D := fnM 1 6 b_law
theorem ok_law (N : Nm K mg) : ∀ f fd, FunD K "law" "law" (defArgs t_law) (defBody t_law) (defScope t_law) [] [] f fd → FnOk P w K mg base (L2.CX P w) 86 f fd ["_law_script"] (spM ⟨K, mg⟩ 1 M_law) := def_fn sc_law rfl rfl fun f cdv A outer s H E hr nd tk hp => (ss_cons (s_set (i := 1) nd (e_callS (ok__law_well N) hr (by decide) tk (a_cons (e_var (i := 0)) a_nil) (argN_cons argN_nil))) (ss_cons (s_set (i := 2) nd (e_callS (ok__law_machine N) hr (by decide) tk (a_cons (e_var (i := 1)) a_nil) (argN_cons argN_nil))) (ss_cons (s_for hp rfl (i_range1 rfl N.f_range e_int) (g_name (i := 3) nd) (ss_cons (s_set (i := 4) nd (e_callS (ok__law_text N) hr (by decide) tk (a_cons (e_var (i := 1)) (a_cons (e_var (i := 2)) a_nil)) (argN_cons (argN_cons argN_nil)))) (ss_cons (s_set (i := 5) nd (e_callS (ok_length N) hr (by decide) tk (a_cons (e_var (i := 2)) (a_cons (e_var (i := 4)) a_nil)) (argN_cons (argN_cons argN_nil)))) (ss_cons (s_if (t_w (w_or (t_cmp (o_ne hr.units) (e_var (i := 5)) (e_callS (ok__law_due N) hr (by decide) tk (a_cons (e_var (i := 2)) (a_cons (e_var (i := 4)) a_nil)) (argN_cons (argN_cons argN_nil))) (nomark _)) (w_or1 (t_tru (e_isi (T := "bool") (by decide) rfl N.f_isinstance rfl N.f_bool bt_bool (e_var (i := 5))))))) (ss_one (s_ret e_bool)) ss_nil) (ss_cons (s_if (t_not (t_tru (e_callS (ok__law_parted_right N) hr (by decide) tk (a_cons (e_var (i := 1)) (a_cons (e_var (i := 2)) (a_cons (e_var (i := 4)) a_nil))) (argN_cons (argN_cons (argN_cons argN_nil)))))) (ss_one (s_ret e_bool)) ss_nil) (ss_one (s_if (t_w (w_and (t_cmp o_ltP (e_bi b_len rfl N.f_len bt_len (a_cons (e_var (i := 4)) a_nil)) e_int (nomark _)) (w_and1 (t_not (t_tru (e_callS (ok__law_odd_right N) hr (by decide) tk (a_cons (e_var (i := 1)) (a_cons (e_var (i := 2)) (a_cons (e_var (i := 4)) a_nil))) (argN_cons (argN_cons (argN_cons argN_nil))))))))) (ss_one (s_ret e_bool)) ss_nil))))))) (ss_one (s_ret e_bool)))))
theorem law_true : ∀ ns : List Int, ns.length ≤ 63 → ∃ s', M_law [.p (.list (ns.map .int))] ⟨[], []⟩ = .ok (.p (.bool true)) s' := by
  intro ns hns
  suffices h : Gets (M_law [.p (.list (ns.map .int))] ⟨[], []⟩) fun d _ => d = .p (.bool true) by
    obtain ⟨d, s, e, rfl⟩ := h
    exact ⟨s, e⟩
  obtain ⟨w, hw, ew⟩ := well ns hns
  unfold M_law
  have ro : rngOk 0 6 := rngOk_of (by omega) (by omega) (by omega) (by omega)
  simp only [b_law, mVar, mK, mBin, mUn, mTru, mTest, mAnd, mOr, mNot, mAndV, mOrV, mNotV, mIf, mNil, mCons, mTup, mLst, mLstF, mCall, mChain, mIsi, fIsi, tyD, tyP, mSlice, oNo, oSome, mSeq, srcOf, mRange1, mRange2, sNext, sSeq, sIf, sRet, sRetN, sExpr, sSet, sAsg, sAug, sFor, sRaise, gSet, gMore, gNone, Mp.gTup, mMeth, fAppend, fLen, fInt, truth, ptruth, asB, pp1, pp2, ret1, dIs, isN, allP, frzD, mFrz, List.map_cons, List.map_nil, List.cons_append, List.nil_append, List.length_cons, List.length_nil, List.getElem?_cons_zero, List.getElem?_cons_succ, List.getElem?_nil, List.set_cons_zero, List.set_cons_succ, if_true, ite_true, Nat.reduceAdd, Nat.reduceSub, List.replicate, Bool.false_eq_true, if_false, Bool.not_true, Bool.not_false, mp_ft, mp_tf, isTy, beq_self_eq_true, isi0, isi1, isi2, isi3, isi4, isi5, isi6, isi7, isi8, isi9, isi10, isi11, isi12, isi13, isi14, isi15, isi16, isi17, isi18, isi19, isi20, isi21, isi22, isi23, isi24, isi25, isi26, isi27, isi28, isi29, isi30, isi31, isi32, isi33, isi34, isi35, isi36, isi37, isi38, isi39, isi40, isi41, onlyF, dIx_tup, dIx_lst, dIx_ref, ixAt_0, ixAt_1, ixAt_2, ixAt_3, iEq_int, iNe_int, dAdd, iAdd, iSub, iNeg, iCmp, iLe, iLt, iGe, iGt, dMul, iMulT, iMul, iMod, iDiv, gIx, setIx, decide_true, decide_false, decide_eq_true_eq, Bool.not_eq_true, List.length_map, gets_ok, gets_bind, gets_ite, rsw_ite, rsw_seq, rsw_thn, rsw_nx, rsw_ret, rst_x, rsx_seq, rsx_nx, rsx_ret, rsx_brk, rsx_cont, rsx_ite, rsx_thn, gets_fnM, onlyP, Option.map_some, Src.items, ew]
  refine mach_w hw fun m w1 hm hw1 => ?_
  simp only [mVar, mK, mBin, mUn, mTru, mTest, mAnd, mOr, mNot, mAndV, mOrV, mNotV, mIf, mNil, mCons, mTup, mLst, mLstF, mCall, mChain, mIsi, fIsi, tyD, tyP, mSlice, oNo, oSome, mSeq, srcOf, mRange1, mRange2, sNext, sSeq, sIf, sRet, sRetN, sExpr, sSet, sAsg, sAug, sFor, sRaise, gSet, gMore, gNone, Mp.gTup, mMeth, fAppend, fLen, fInt, truth, ptruth, asB, pp1, pp2, ret1, dIs, isN, allP, frzD, mFrz, List.map_cons, List.map_nil, List.cons_append, List.nil_append, List.length_cons, List.length_nil, List.getElem?_cons_zero, List.getElem?_cons_succ, List.getElem?_nil, List.set_cons_zero, List.set_cons_succ, if_true, ite_true, Nat.reduceAdd, Nat.reduceSub, List.replicate, Bool.false_eq_true, if_false, Bool.not_true, Bool.not_false, mp_ft, mp_tf, isTy, beq_self_eq_true, isi0, isi1, isi2, isi3, isi4, isi5, isi6, isi7, isi8, isi9, isi10, isi11, isi12, isi13, isi14, isi15, isi16, isi17, isi18, isi19, isi20, isi21, isi22, isi23, isi24, isi25, isi26, isi27, isi28, isi29, isi30, isi31, isi32, isi33, isi34, isi35, isi36, isi37, isi38, isi39, isi40, isi41, onlyF, dIx_tup, dIx_lst, dIx_ref, ixAt_0, ixAt_1, ixAt_2, ixAt_3, iEq_int, iNe_int, dAdd, iAdd, iSub, iNeg, iCmp, iLe, iLt, iGe, iGt, dMul, iMulT, iMul, iMod, iDiv, gIx, setIx, decide_true, decide_false, decide_eq_true_eq, Bool.not_eq_true, List.length_map, gets_ok, gets_bind, gets_ite, rsw_ite, rsw_seq, rsw_thn, rsw_nx, rsw_ret, rst_x, rsx_seq, rsx_nx, rsx_ret, rsx_brk, rsx_cont, rsx_ite, rsx_thn, gets_fnM, onlyP, Option.map_some, Src.items, ro]
  refine for_gets (J := fun xs e s' => ∃ (w' : GH) (e3 e4 e5 : Option D), WA w' ∧ s' = ⟨[], w'⟩ ∧ e = [some (.p (.list (ns.map .int))), some (.well 0), some (.p (eM m)), e3, e4, e5]) (fun _ _ _ _ => trivial) ?_ ?_ _ _ _ ?_
  · rintro x xs e s' ⟨w', e3, e4, e5, hw', rfl, rfl⟩
    simp only [mVar, mK, mBin, mUn, mTru, mTest, mAnd, mOr, mNot, mAndV, mOrV, mNotV, mIf, mNil, mCons, mTup, mLst, mLstF, mCall, mChain, mIsi, fIsi, tyD, tyP, mSlice, oNo, oSome, mSeq, srcOf, mRange1, mRange2, sNext, sSeq, sIf, sRet, sRetN, sExpr, sSet, sAsg, sAug, sFor, sRaise, gSet, gMore, gNone, Mp.gTup, mMeth, fAppend, fLen, fInt, truth, ptruth, asB, pp1, pp2, ret1, dIs, isN, allP, frzD, mFrz, List.map_cons, List.map_nil, List.cons_append, List.nil_append, List.length_cons, List.length_nil, List.getElem?_cons_zero, List.getElem?_cons_succ, List.getElem?_nil, List.set_cons_zero, List.set_cons_succ, if_true, ite_true, Nat.reduceAdd, Nat.reduceSub, List.replicate, Bool.false_eq_true, if_false, Bool.not_true, Bool.not_false, mp_ft, mp_tf, isTy, beq_self_eq_true, isi0, isi1, isi2, isi3, isi4, isi5, isi6, isi7, isi8, isi9, isi10, isi11, isi12, isi13, isi14, isi15, isi16, isi17, isi18, isi19, isi20, isi21, isi22, isi23, isi24, isi25, isi26, isi27, isi28, isi29, isi30, isi31, isi32, isi33, isi34, isi35, isi36, isi37, isi38, isi39, isi40, isi41, onlyF, dIx_tup, dIx_lst, dIx_ref, ixAt_0, ixAt_1, ixAt_2, ixAt_3, iEq_int, iNe_int, dAdd, iAdd, iSub, iNeg, iCmp, iLe, iLt, iGe, iGt, dMul, iMulT, iMul, iMod, iDiv, gIx, setIx, decide_true, decide_false, decide_eq_true_eq, Bool.not_eq_true, List.length_map, gets_ok, gets_bind, gets_ite, rsw_ite, rsw_seq, rsw_thn, rsw_nx, rsw_ret, rst_x, rsx_seq, rsx_nx, rsx_ret, rsx_brk, rsx_cont, rsx_ite, rsx_thn, gets_fnM, onlyP, Option.map_some, Src.items]
    refine text_w hm hw' fun t w2 ht hz hw2 => ?_
    have e0 : eT t = .tuple (t.map eN) := rfl
    simp only [mVar, mK, mBin, mUn, mTru, mTest, mAnd, mOr, mNot, mAndV, mOrV, mNotV, mIf, mNil, mCons, mTup, mLst, mLstF, mCall, mChain, mIsi, fIsi, tyD, tyP, mSlice, oNo, oSome, mSeq, srcOf, mRange1, mRange2, sNext, sSeq, sIf, sRet, sRetN, sExpr, sSet, sAsg, sAug, sFor, sRaise, gSet, gMore, gNone, Mp.gTup, mMeth, fAppend, fLen, fInt, truth, ptruth, asB, pp1, pp2, ret1, dIs, isN, allP, frzD, mFrz, List.map_cons, List.map_nil, List.cons_append, List.nil_append, List.length_cons, List.length_nil, List.getElem?_cons_zero, List.getElem?_cons_succ, List.getElem?_nil, List.set_cons_zero, List.set_cons_succ, if_true, ite_true, Nat.reduceAdd, Nat.reduceSub, List.replicate, Bool.false_eq_true, if_false, Bool.not_true, Bool.not_false, mp_ft, mp_tf, isTy, beq_self_eq_true, isi0, isi1, isi2, isi3, isi4, isi5, isi6, isi7, isi8, isi9, isi10, isi11, isi12, isi13, isi14, isi15, isi16, isi17, isi18, isi19, isi20, isi21, isi22, isi23, isi24, isi25, isi26, isi27, isi28, isi29, isi30, isi31, isi32, isi33, isi34, isi35, isi36, isi37, isi38, isi39, isi40, isi41, onlyF, dIx_tup, dIx_lst, dIx_ref, ixAt_0, ixAt_1, ixAt_2, ixAt_3, iEq_int, iNe_int, dAdd, iAdd, iSub, iNeg, iCmp, iLe, iLt, iGe, iGt, dMul, iMulT, iMul, iMod, iDiv, gIx, setIx, decide_true, decide_false, decide_eq_true_eq, Bool.not_eq_true, List.length_map, gets_ok, gets_bind, gets_ite, rsw_ite, rsw_seq, rsw_thn, rsw_nx, rsw_ret, rst_x, rsx_seq, rsx_nx, rsx_ret, rsx_brk, rsx_cont, rsx_ite, rsx_thn, gets_fnM, onlyP, Option.map_some, Src.items, length_eq hm ht (by omega), due_eq hm ht, iNe_eO]
    have hb : ∀ o : Option Nat, isiT (tyP (eO o)) "bool" = false := fun o => by
      cases o with
      | none => show isiT "NoneType" "bool" = false; decide
      | some k => show isiT "int" "bool" = false; decide
    simp only [tyP] at hb
    simp only [mVar, mK, mBin, mUn, mTru, mTest, mAnd, mOr, mNot, mAndV, mOrV, mNotV, mIf, mNil, mCons, mTup, mLst, mLstF, mCall, mChain, mIsi, fIsi, tyD, tyP, mSlice, oNo, oSome, mSeq, srcOf, mRange1, mRange2, sNext, sSeq, sIf, sRet, sRetN, sExpr, sSet, sAsg, sAug, sFor, sRaise, gSet, gMore, gNone, Mp.gTup, mMeth, fAppend, fLen, fInt, truth, ptruth, asB, pp1, pp2, ret1, dIs, isN, allP, frzD, mFrz, List.map_cons, List.map_nil, List.cons_append, List.nil_append, List.length_cons, List.length_nil, List.getElem?_cons_zero, List.getElem?_cons_succ, List.getElem?_nil, List.set_cons_zero, List.set_cons_succ, if_true, ite_true, Nat.reduceAdd, Nat.reduceSub, List.replicate, Bool.false_eq_true, if_false, Bool.not_true, Bool.not_false, mp_ft, mp_tf, isTy, beq_self_eq_true, isi0, isi1, isi2, isi3, isi4, isi5, isi6, isi7, isi8, isi9, isi10, isi11, isi12, isi13, isi14, isi15, isi16, isi17, isi18, isi19, isi20, isi21, isi22, isi23, isi24, isi25, isi26, isi27, isi28, isi29, isi30, isi31, isi32, isi33, isi34, isi35, isi36, isi37, isi38, isi39, isi40, isi41, onlyF, dIx_tup, dIx_lst, dIx_ref, ixAt_0, ixAt_1, ixAt_2, ixAt_3, iEq_int, iNe_int, dAdd, iAdd, iSub, iNeg, iCmp, iLe, iLt, iGe, iGt, dMul, iMulT, iMul, iMod, iDiv, gIx, setIx, decide_true, decide_false, decide_eq_true_eq, Bool.not_eq_true, List.length_map, gets_ok, gets_bind, gets_ite, rsw_ite, rsw_seq, rsw_thn, rsw_nx, rsw_ret, rst_x, rsx_seq, rsx_nx, rsx_ret, rsx_brk, rsx_cont, rsx_ite, rsx_thn, gets_fnM, onlyP, Option.map_some, Src.items, Bool.not_true, hb]
    refine parted_w hm ht hz hw2 fun w3 hw3 => ?_
    by_cases h100 : (t.length : Int) < 100
    · simp only [mVar, mK, mBin, mUn, mTru, mTest, mAnd, mOr, mNot, mAndV, mOrV, mNotV, mIf, mNil, mCons, mTup, mLst, mLstF, mCall, mChain, mIsi, fIsi, tyD, tyP, mSlice, oNo, oSome, mSeq, srcOf, mRange1, mRange2, sNext, sSeq, sIf, sRet, sRetN, sExpr, sSet, sAsg, sAug, sFor, sRaise, gSet, gMore, gNone, Mp.gTup, mMeth, fAppend, fLen, fInt, truth, ptruth, asB, pp1, pp2, ret1, dIs, isN, allP, frzD, mFrz, List.map_cons, List.map_nil, List.cons_append, List.nil_append, List.length_cons, List.length_nil, List.getElem?_cons_zero, List.getElem?_cons_succ, List.getElem?_nil, List.set_cons_zero, List.set_cons_succ, if_true, ite_true, Nat.reduceAdd, Nat.reduceSub, List.replicate, Bool.false_eq_true, if_false, Bool.not_true, Bool.not_false, mp_ft, mp_tf, isTy, beq_self_eq_true, isi0, isi1, isi2, isi3, isi4, isi5, isi6, isi7, isi8, isi9, isi10, isi11, isi12, isi13, isi14, isi15, isi16, isi17, isi18, isi19, isi20, isi21, isi22, isi23, isi24, isi25, isi26, isi27, isi28, isi29, isi30, isi31, isi32, isi33, isi34, isi35, isi36, isi37, isi38, isi39, isi40, isi41, onlyF, dIx_tup, dIx_lst, dIx_ref, ixAt_0, ixAt_1, ixAt_2, ixAt_3, iEq_int, iNe_int, dAdd, iAdd, iSub, iNeg, iCmp, iLe, iLt, iGe, iGt, dMul, iMulT, iMul, iMod, iDiv, gIx, setIx, decide_true, decide_false, decide_eq_true_eq, Bool.not_eq_true, List.length_map, gets_ok, gets_bind, gets_ite, rsw_ite, rsw_seq, rsw_thn, rsw_nx, rsw_ret, rst_x, rsx_seq, rsx_nx, rsx_ret, rsx_brk, rsx_cont, rsx_ite, rsx_thn, gets_fnM, onlyP, Option.map_some, Src.items, e0, h100]
      rw [← e0]
      refine odd_w hm ht (by omega) hw3 fun w4 hw4 => ?_
      simp only [mVar, mK, mBin, mUn, mTru, mTest, mAnd, mOr, mNot, mAndV, mOrV, mNotV, mIf, mNil, mCons, mTup, mLst, mLstF, mCall, mChain, mIsi, fIsi, tyD, tyP, mSlice, oNo, oSome, mSeq, srcOf, mRange1, mRange2, sNext, sSeq, sIf, sRet, sRetN, sExpr, sSet, sAsg, sAug, sFor, sRaise, gSet, gMore, gNone, Mp.gTup, mMeth, fAppend, fLen, fInt, truth, ptruth, asB, pp1, pp2, ret1, dIs, isN, allP, frzD, mFrz, List.map_cons, List.map_nil, List.cons_append, List.nil_append, List.length_cons, List.length_nil, List.getElem?_cons_zero, List.getElem?_cons_succ, List.getElem?_nil, List.set_cons_zero, List.set_cons_succ, if_true, ite_true, Nat.reduceAdd, Nat.reduceSub, List.replicate, Bool.false_eq_true, if_false, Bool.not_true, Bool.not_false, mp_ft, mp_tf, isTy, beq_self_eq_true, isi0, isi1, isi2, isi3, isi4, isi5, isi6, isi7, isi8, isi9, isi10, isi11, isi12, isi13, isi14, isi15, isi16, isi17, isi18, isi19, isi20, isi21, isi22, isi23, isi24, isi25, isi26, isi27, isi28, isi29, isi30, isi31, isi32, isi33, isi34, isi35, isi36, isi37, isi38, isi39, isi40, isi41, onlyF, dIx_tup, dIx_lst, dIx_ref, ixAt_0, ixAt_1, ixAt_2, ixAt_3, iEq_int, iNe_int, dAdd, iAdd, iSub, iNeg, iCmp, iLe, iLt, iGe, iGt, dMul, iMulT, iMul, iMod, iDiv, gIx, setIx, decide_true, decide_false, decide_eq_true_eq, Bool.not_eq_true, List.length_map, gets_ok, gets_bind, gets_ite, rsw_ite, rsw_seq, rsw_thn, rsw_nx, rsw_ret, rst_x, rsx_seq, rsx_nx, rsx_ret, rsx_brk, rsx_cont, rsx_ite, rsx_thn, gets_fnM, onlyP, Option.map_some, Src.items]
      exact ⟨w4, _, _, _, hw4, rfl, rfl⟩
    · simp only [mVar, mK, mBin, mUn, mTru, mTest, mAnd, mOr, mNot, mAndV, mOrV, mNotV, mIf, mNil, mCons, mTup, mLst, mLstF, mCall, mChain, mIsi, fIsi, tyD, tyP, mSlice, oNo, oSome, mSeq, srcOf, mRange1, mRange2, sNext, sSeq, sIf, sRet, sRetN, sExpr, sSet, sAsg, sAug, sFor, sRaise, gSet, gMore, gNone, Mp.gTup, mMeth, fAppend, fLen, fInt, truth, ptruth, asB, pp1, pp2, ret1, dIs, isN, allP, frzD, mFrz, List.map_cons, List.map_nil, List.cons_append, List.nil_append, List.length_cons, List.length_nil, List.getElem?_cons_zero, List.getElem?_cons_succ, List.getElem?_nil, List.set_cons_zero, List.set_cons_succ, if_true, ite_true, Nat.reduceAdd, Nat.reduceSub, List.replicate, Bool.false_eq_true, if_false, Bool.not_true, Bool.not_false, mp_ft, mp_tf, isTy, beq_self_eq_true, isi0, isi1, isi2, isi3, isi4, isi5, isi6, isi7, isi8, isi9, isi10, isi11, isi12, isi13, isi14, isi15, isi16, isi17, isi18, isi19, isi20, isi21, isi22, isi23, isi24, isi25, isi26, isi27, isi28, isi29, isi30, isi31, isi32, isi33, isi34, isi35, isi36, isi37, isi38, isi39, isi40, isi41, onlyF, dIx_tup, dIx_lst, dIx_ref, ixAt_0, ixAt_1, ixAt_2, ixAt_3, iEq_int, iNe_int, dAdd, iAdd, iSub, iNeg, iCmp, iLe, iLt, iGe, iGt, dMul, iMulT, iMul, iMod, iDiv, gIx, setIx, decide_true, decide_false, decide_eq_true_eq, Bool.not_eq_true, List.length_map, gets_ok, gets_bind, gets_ite, rsw_ite, rsw_seq, rsw_thn, rsw_nx, rsw_ret, rst_x, rsx_seq, rsx_nx, rsx_ret, rsx_brk, rsx_cont, rsx_ite, rsx_thn, gets_fnM, onlyP, Option.map_some, Src.items, e0, h100]
      exact ⟨w3, _, _, _, hw3, rfl, rfl⟩
  · rintro e s' ⟨w', e3, e4, e5, hw', rfl, rfl⟩
    simp only [mVar, mK, mBin, mUn, mTru, mTest, mAnd, mOr, mNot, mAndV, mOrV, mNotV, mIf, mNil, mCons, mTup, mLst, mLstF, mCall, mChain, mIsi, fIsi, tyD, tyP, mSlice, oNo, oSome, mSeq, srcOf, mRange1, mRange2, sNext, sSeq, sIf, sRet, sRetN, sExpr, sSet, sAsg, sAug, sFor, sRaise, gSet, gMore, gNone, Mp.gTup, mMeth, fAppend, fLen, fInt, truth, ptruth, asB, pp1, pp2, ret1, dIs, isN, allP, frzD, mFrz, List.map_cons, List.map_nil, List.cons_append, List.nil_append, List.length_cons, List.length_nil, List.getElem?_cons_zero, List.getElem?_cons_succ, List.getElem?_nil, List.set_cons_zero, List.set_cons_succ, if_true, ite_true, Nat.reduceAdd, Nat.reduceSub, List.replicate, Bool.false_eq_true, if_false, Bool.not_true, Bool.not_false, mp_ft, mp_tf, isTy, beq_self_eq_true, isi0, isi1, isi2, isi3, isi4, isi5, isi6, isi7, isi8, isi9, isi10, isi11, isi12, isi13, isi14, isi15, isi16, isi17, isi18, isi19, isi20, isi21, isi22, isi23, isi24, isi25, isi26, isi27, isi28, isi29, isi30, isi31, isi32, isi33, isi34, isi35, isi36, isi37, isi38, isi39, isi40, isi41, onlyF, dIx_tup, dIx_lst, dIx_ref, ixAt_0, ixAt_1, ixAt_2, ixAt_3, iEq_int, iNe_int, dAdd, iAdd, iSub, iNeg, iCmp, iLe, iLt, iGe, iGt, dMul, iMulT, iMul, iMod, iDiv, gIx, setIx, decide_true, decide_false, decide_eq_true_eq, Bool.not_eq_true, List.length_map, gets_ok, gets_bind, gets_ite, rsw_ite, rsw_seq, rsw_thn, rsw_nx, rsw_ret, rst_x, rsx_seq, rsx_nx, rsx_ret, rsx_brk, rsx_cont, rsx_ite, rsx_thn, gets_fnM, onlyP, Option.map_some, Src.items]
  · exact ⟨w1, none, none, none, hw1, rfl, rfl⟩
end
end Lw

namespace Lw
open PySem PySem.Spec PyProof.Rows L2 Mp
def dd (x : Str) (st : Stmt) : He.DefD := ⟨(x, none), x, x, defArgs st, defBody st, defScope st, [], []⟩
def dL_0 : List He.DefD := [dd "is_integer" t_is_integer, dd "is_between" t_is_between, dd "is_index" t_is_index, dd "is_tuple_of" t_is_tuple_of, dd "is_size" t_is_size, dd "raw_is_text" t_raw_is_text, dd "is_step" t_is_step, dd "is_row" t_is_row, dd "is_machine" t_is_machine, dd "check_machine" t_check_machine, dd "raw_length" t_raw_length, dd "check_text" t_check_text, dd "length" t_length, dd "_law_mixed" t__law_mixed, dd "_law_well" t__law_well, dd "_law_filled" t__law_filled, dd "_law_draw" t__law_draw, dd "_law_any" t__law_any, dd "_law_nodes" t__law_nodes, dd "_law_changed" t__law_changed, dd "_law_spoilt" t__law_spoilt, dd "_law_more" t__law_more, dd "_law_step" t__law_step, dd "_law_end" t__law_end, dd "_law_machine" t__law_machine, dd "_law_is_int" t__law_is_int, dd "_law_long" t__law_long, dd "_law_step_fits" t__law_step_fits, dd "_law_row_fits" t__law_row_fits, dd "_law_machine_fits" t__law_machine_fits]
def dL_1 : List He.DefD := [dd "_law_text_fits" t__law_text_fits, dd "_law_read" t__law_read, dd "_law_due" t__law_due, dd "_law_text" t__law_text, dd "_law_begun_at" t__law_begun_at, dd "_law_later" t__law_later, dd "_law_told" t__law_told, dd "_law_parted_right" t__law_parted_right, dd "_law_odd_right" t__law_odd_right, dd "law" t_law]
def dL : List He.DefD := dL_0 ++ dL_1
def fL_0 : List He.Fa := [.glo "is_integer", .glo "is_between", .glo "is_index", .glo "is_tuple_of", .glo "is_size", .glo "raw_is_text", .glo "is_step", .glo "is_row", .glo "is_machine", .glo "check_machine", .glo "raw_length", .glo "check_text", .glo "length", .glo "_law_mixed", .glo "_law_well", .glo "_law_filled", .glo "_law_draw", .glo "_law_any", .glo "_law_nodes", .glo "_law_changed", .glo "_law_spoilt", .glo "_law_more", .glo "_law_step", .glo "_law_end", .glo "_law_machine", .glo "_law_is_int", .glo "_law_long", .glo "_law_step_fits", .glo "_law_row_fits", .glo "_law_machine_fits"]
def fL_1 : List He.Fa := [.glo "_law_text_fits", .glo "_law_read", .glo "_law_due", .glo "_law_text", .glo "_law_begun_at", .glo "_law_later", .glo "_law_told", .glo "_law_parted_right", .glo "_law_odd_right", .glo "law", .glo "LengthError", .glo "NoMachine", .glo "NoText", .free "all", .free "bool", .free "int", .free "isinstance", .free "len", .free "list", .free "range", .free "str", .free "sum", .free "tuple", .int "MOST_SIZE" 8, .int "MOST_STATES" 30, .int "MOST_MORE" 60, .int "SIZE" 0, .int "ROWS" 1, .exc "LengthError", .exc "NoMachine"]
def fL_2 : List He.Fa := [.exc "NoText", .exm "LengthError" "LengthError" true, .exm "LengthError" "NoMachine" false, .exm "LengthError" "NoText" false, .exm "NoMachine" "LengthError" true, .exm "NoMachine" "NoMachine" true, .exm "NoMachine" "NoText" false, .exm "NoText" "LengthError" true, .exm "NoText" "NoMachine" false, .exm "NoText" "NoText" true]
def fL : List He.Fa := fL_0 ++ fL_1 ++ fL_2
def nmL_0 : List Str := ["is_integer", "is_between", "is_index", "is_tuple_of", "is_size", "raw_is_text", "is_step", "is_row", "is_machine", "check_machine", "raw_length", "check_text", "length", "_law_mixed", "_law_well", "_law_filled", "_law_draw", "_law_any", "_law_nodes", "_law_changed", "_law_spoilt", "_law_more", "_law_step", "_law_end", "_law_machine", "_law_is_int", "_law_long", "_law_step_fits", "_law_row_fits", "_law_machine_fits"]
def nmL_1 : List Str := ["_law_text_fits", "_law_read", "_law_due", "_law_text", "_law_begun_at", "_law_later", "_law_told", "_law_parted_right", "_law_odd_right", "LengthError", "NoMachine", "NoText", "MOST_SIZE", "MOST_STATES", "MOST_MORE", "SIZE", "ROWS"]
def nmL : List Str := nmL_0 ++ nmL_1
abbrev R : PySem.W.OpenRow := PySem.W.OpenLaw.row PySem.Challenge.rw_keptlengths_k02_whole_lengths_of_texts
abbrev hk : PySem.W.Hook := He.hookD 4 fL dL
def ob (s : PySem.W.SharedT) : He.AlD := He.obsDG 4 fL dL (HandSHeadRun.getT s)
theorem ob_eq (s : PySem.W.SharedT) : ob s = hk.obs s.abs := He.obsDG_eq (HandSHeadRun.getT_eq s)
theorem run (w : World) : HandSHeadRun.RunEq R (PySem.W.view R.prog [51]) hk ob 20000 nmL w := by
  intro os
  kernel_rfl
theorem says_fact {K : PySem.W.Frag} (c : He.SaysD fL dL K) {f : He.Fa} (h : f ∈ fL) : f.ok K = true := by
  obtain ⟨i, hi, e⟩ := List.mem_iff_getElem.mp h
  exact c.fact i (by rw [← e]; exact List.getElem?_eq_getElem hi)
theorem says_def {K : PySem.W.Frag} {h : Heap} {mg : Str → Option Value} (X : K.In h) (G : h.Ns mainGlobals mg) (c : He.SaysD fL dL K) {x : Str} {st : Stmt} (hd : dd x st ∈ dL) (hf : He.Fa.glo x ∈ fL) : DefAt K mg x st := by
  obtain ⟨i, hi, e⟩ := List.mem_iff_getElem.mp hd
  obtain ⟨fd, F⟩ := c.def_ i (d := dd x st) (by rw [← e]; exact List.getElem?_eq_getElem hi)
  exact ⟨_, fd, F, He.glo_ok X G (says_fact c hf)⟩
theorem nm {K : PySem.W.Frag} {h : Heap} {mg : Str → Option Value} (X : K.In h) (G : h.Ns mainGlobals mg) (c : He.SaysD fL dL K) : Nm K mg where
  f_all := He.free_ok X G (c.fact 43 rfl)
  f_bool := He.free_ok X G (c.fact 44 rfl)
  f_int := He.free_ok X G (c.fact 45 rfl)
  f_isinstance := He.free_ok X G (c.fact 46 rfl)
  f_len := He.free_ok X G (c.fact 47 rfl)
  f_list := He.free_ok X G (c.fact 48 rfl)
  f_range := He.free_ok X G (c.fact 49 rfl)
  f_str := He.free_ok X G (c.fact 50 rfl)
  f_sum := He.free_ok X G (c.fact 51 rfl)
  f_tuple := He.free_ok X G (c.fact 52 rfl)
  i_MOST_SIZE := He.int_ok X G (c.fact 53 rfl)
  i_MOST_STATES := He.int_ok X G (c.fact 54 rfl)
  i_MOST_MORE := He.int_ok X G (c.fact 55 rfl)
  i_SIZE := He.int_ok X G (c.fact 56 rfl)
  i_ROWS := He.int_ok X G (c.fact 57 rfl)
  d_is_integer := by
    obtain ⟨fd, F⟩ := c.def_ 0 (d := dd "is_integer" t_is_integer) rfl
    exact ⟨_, fd, F, He.glo_ok X G (c.fact 0 rfl)⟩
  d_is_between := by
    obtain ⟨fd, F⟩ := c.def_ 1 (d := dd "is_between" t_is_between) rfl
    exact ⟨_, fd, F, He.glo_ok X G (c.fact 1 rfl)⟩
  d_is_index := by
    obtain ⟨fd, F⟩ := c.def_ 2 (d := dd "is_index" t_is_index) rfl
    exact ⟨_, fd, F, He.glo_ok X G (c.fact 2 rfl)⟩
  d_is_tuple_of := by
    obtain ⟨fd, F⟩ := c.def_ 3 (d := dd "is_tuple_of" t_is_tuple_of) rfl
    exact ⟨_, fd, F, He.glo_ok X G (c.fact 3 rfl)⟩
  d_is_size := by
    obtain ⟨fd, F⟩ := c.def_ 4 (d := dd "is_size" t_is_size) rfl
    exact ⟨_, fd, F, He.glo_ok X G (c.fact 4 rfl)⟩
  d_raw_is_text := by
    obtain ⟨fd, F⟩ := c.def_ 5 (d := dd "raw_is_text" t_raw_is_text) rfl
    exact ⟨_, fd, F, He.glo_ok X G (c.fact 5 rfl)⟩
  d_is_step := by
    obtain ⟨fd, F⟩ := c.def_ 6 (d := dd "is_step" t_is_step) rfl
    exact ⟨_, fd, F, He.glo_ok X G (c.fact 6 rfl)⟩
  d_is_row := by
    obtain ⟨fd, F⟩ := c.def_ 7 (d := dd "is_row" t_is_row) rfl
    exact ⟨_, fd, F, He.glo_ok X G (c.fact 7 rfl)⟩
  d_is_machine := by
    obtain ⟨fd, F⟩ := c.def_ 8 (d := dd "is_machine" t_is_machine) rfl
    exact ⟨_, fd, F, He.glo_ok X G (c.fact 8 rfl)⟩
  d_check_machine := by
    obtain ⟨fd, F⟩ := c.def_ 9 (d := dd "check_machine" t_check_machine) rfl
    exact ⟨_, fd, F, He.glo_ok X G (c.fact 9 rfl)⟩
  d_raw_length := by
    obtain ⟨fd, F⟩ := c.def_ 10 (d := dd "raw_length" t_raw_length) rfl
    exact ⟨_, fd, F, He.glo_ok X G (c.fact 10 rfl)⟩
  d_check_text := by
    obtain ⟨fd, F⟩ := c.def_ 11 (d := dd "check_text" t_check_text) rfl
    exact ⟨_, fd, F, He.glo_ok X G (c.fact 11 rfl)⟩
  d_length := by
    obtain ⟨fd, F⟩ := c.def_ 12 (d := dd "length" t_length) rfl
    exact ⟨_, fd, F, He.glo_ok X G (c.fact 12 rfl)⟩
  d__law_mixed := by
    obtain ⟨fd, F⟩ := c.def_ 13 (d := dd "_law_mixed" t__law_mixed) rfl
    exact ⟨_, fd, F, He.glo_ok X G (c.fact 13 rfl)⟩
  d__law_well := by
    obtain ⟨fd, F⟩ := c.def_ 14 (d := dd "_law_well" t__law_well) rfl
    exact ⟨_, fd, F, He.glo_ok X G (c.fact 14 rfl)⟩
  d__law_filled := by
    obtain ⟨fd, F⟩ := c.def_ 15 (d := dd "_law_filled" t__law_filled) rfl
    exact ⟨_, fd, F, He.glo_ok X G (c.fact 15 rfl)⟩
  d__law_draw := by
    obtain ⟨fd, F⟩ := c.def_ 16 (d := dd "_law_draw" t__law_draw) rfl
    exact ⟨_, fd, F, He.glo_ok X G (c.fact 16 rfl)⟩
  d__law_any := by
    obtain ⟨fd, F⟩ := c.def_ 17 (d := dd "_law_any" t__law_any) rfl
    exact ⟨_, fd, F, He.glo_ok X G (c.fact 17 rfl)⟩
  d__law_nodes := by
    obtain ⟨fd, F⟩ := c.def_ 18 (d := dd "_law_nodes" t__law_nodes) rfl
    exact ⟨_, fd, F, He.glo_ok X G (c.fact 18 rfl)⟩
  d__law_changed := by
    obtain ⟨fd, F⟩ := c.def_ 19 (d := dd "_law_changed" t__law_changed) rfl
    exact ⟨_, fd, F, He.glo_ok X G (c.fact 19 rfl)⟩
  d__law_spoilt := by
    obtain ⟨fd, F⟩ := c.def_ 20 (d := dd "_law_spoilt" t__law_spoilt) rfl
    exact ⟨_, fd, F, He.glo_ok X G (c.fact 20 rfl)⟩
  d__law_more := by
    obtain ⟨fd, F⟩ := c.def_ 21 (d := dd "_law_more" t__law_more) rfl
    exact ⟨_, fd, F, He.glo_ok X G (c.fact 21 rfl)⟩
  d__law_step := by
    obtain ⟨fd, F⟩ := c.def_ 22 (d := dd "_law_step" t__law_step) rfl
    exact ⟨_, fd, F, He.glo_ok X G (c.fact 22 rfl)⟩
  d__law_end := by
    obtain ⟨fd, F⟩ := c.def_ 23 (d := dd "_law_end" t__law_end) rfl
    exact ⟨_, fd, F, He.glo_ok X G (c.fact 23 rfl)⟩
  d__law_machine := by
    obtain ⟨fd, F⟩ := c.def_ 24 (d := dd "_law_machine" t__law_machine) rfl
    exact ⟨_, fd, F, He.glo_ok X G (c.fact 24 rfl)⟩
  d__law_is_int := by
    obtain ⟨fd, F⟩ := c.def_ 25 (d := dd "_law_is_int" t__law_is_int) rfl
    exact ⟨_, fd, F, He.glo_ok X G (c.fact 25 rfl)⟩
  d__law_long := by
    obtain ⟨fd, F⟩ := c.def_ 26 (d := dd "_law_long" t__law_long) rfl
    exact ⟨_, fd, F, He.glo_ok X G (c.fact 26 rfl)⟩
  d__law_step_fits := by
    obtain ⟨fd, F⟩ := c.def_ 27 (d := dd "_law_step_fits" t__law_step_fits) rfl
    exact ⟨_, fd, F, He.glo_ok X G (c.fact 27 rfl)⟩
  d__law_row_fits := by
    obtain ⟨fd, F⟩ := c.def_ 28 (d := dd "_law_row_fits" t__law_row_fits) rfl
    exact ⟨_, fd, F, He.glo_ok X G (c.fact 28 rfl)⟩
  d__law_machine_fits := by
    obtain ⟨fd, F⟩ := c.def_ 29 (d := dd "_law_machine_fits" t__law_machine_fits) rfl
    exact ⟨_, fd, F, He.glo_ok X G (c.fact 29 rfl)⟩
  d__law_text_fits := by
    obtain ⟨fd, F⟩ := c.def_ 30 (d := dd "_law_text_fits" t__law_text_fits) rfl
    exact ⟨_, fd, F, He.glo_ok X G (c.fact 30 rfl)⟩
  d__law_read := by
    obtain ⟨fd, F⟩ := c.def_ 31 (d := dd "_law_read" t__law_read) rfl
    exact ⟨_, fd, F, He.glo_ok X G (c.fact 31 rfl)⟩
  d__law_due := by
    obtain ⟨fd, F⟩ := c.def_ 32 (d := dd "_law_due" t__law_due) rfl
    exact ⟨_, fd, F, He.glo_ok X G (c.fact 32 rfl)⟩
  d__law_text := by
    obtain ⟨fd, F⟩ := c.def_ 33 (d := dd "_law_text" t__law_text) rfl
    exact ⟨_, fd, F, He.glo_ok X G (c.fact 33 rfl)⟩
  d__law_begun_at := by
    obtain ⟨fd, F⟩ := c.def_ 34 (d := dd "_law_begun_at" t__law_begun_at) rfl
    exact ⟨_, fd, F, He.glo_ok X G (c.fact 34 rfl)⟩
  d__law_later := by
    obtain ⟨fd, F⟩ := c.def_ 35 (d := dd "_law_later" t__law_later) rfl
    exact ⟨_, fd, F, He.glo_ok X G (c.fact 35 rfl)⟩
  d__law_told := by
    obtain ⟨fd, F⟩ := c.def_ 36 (d := dd "_law_told" t__law_told) rfl
    exact ⟨_, fd, F, He.glo_ok X G (c.fact 36 rfl)⟩
  d__law_parted_right := by
    obtain ⟨fd, F⟩ := c.def_ 37 (d := dd "_law_parted_right" t__law_parted_right) rfl
    exact ⟨_, fd, F, He.glo_ok X G (c.fact 37 rfl)⟩
  d__law_odd_right := by
    obtain ⟨fd, F⟩ := c.def_ 38 (d := dd "_law_odd_right" t__law_odd_right) rfl
    exact ⟨_, fd, F, He.glo_ok X G (c.fact 38 rfl)⟩
  d_law := by
    obtain ⟨fd, F⟩ := c.def_ 39 (d := dd "law" t_law) rfl
    exact ⟨_, fd, F, He.glo_ok X G (c.fact 39 rfl)⟩
  x_LengthError := by
    obtain ⟨h1, h2, h3, h4⟩ := He.exc_ok (c.fact 58 (f := .exc "LengthError") rfl)
    exact ⟨_, He.glo_ok X G (c.fact 40 rfl), h1, h2, h3, h4⟩
  x_NoMachine := by
    obtain ⟨h1, h2, h3, h4⟩ := He.exc_ok (c.fact 59 (f := .exc "NoMachine") rfl)
    exact ⟨_, He.glo_ok X G (c.fact 41 rfl), h1, h2, h3, h4⟩
  x_NoText := by
    obtain ⟨h1, h2, h3, h4⟩ := He.exc_ok (c.fact 60 (f := .exc "NoText") rfl)
    exact ⟨_, He.glo_ok X G (c.fact 42 rfl), h1, h2, h3, h4⟩
  e_LengthError := by
    refine ⟨_, He.glo_ok X G (c.fact 40 rfl), fun x C b hx hb => ?_⟩
    have hm := ex_mem hb
    simp only [emL, List.mem_cons, Prod.mk.injEq, List.not_mem_nil, or_false] at hm
    rcases hm with ⟨⟨e1, e2⟩, e3⟩ | ⟨⟨e1, e2⟩, e3⟩ | ⟨⟨e1, e2⟩, e3⟩ | ⟨⟨e1, e2⟩, e3⟩ | ⟨⟨e1, e2⟩, e3⟩ | ⟨⟨e1, e2⟩, e3⟩ | ⟨⟨e1, e2⟩, e3⟩ | ⟨⟨e1, e2⟩, e3⟩ | ⟨⟨e1, e2⟩, e3⟩
    · subst e1 e3
      have g := He.glo_ok X G (c.fact 40 (f := .glo "LengthError") rfl)
      rw [g] at hx; cases hx
      exact He.exm_ok (c.fact 61 (f := .exm "LengthError" "LengthError" true) rfl)
    · exact absurd e2 (by decide)
    · exact absurd e2 (by decide)
    · subst e1 e3
      have g := He.glo_ok X G (c.fact 41 (f := .glo "NoMachine") rfl)
      rw [g] at hx; cases hx
      exact He.exm_ok (c.fact 64 (f := .exm "NoMachine" "LengthError" true) rfl)
    · exact absurd e2 (by decide)
    · exact absurd e2 (by decide)
    · subst e1 e3
      have g := He.glo_ok X G (c.fact 42 (f := .glo "NoText") rfl)
      rw [g] at hx; cases hx
      exact He.exm_ok (c.fact 67 (f := .exm "NoText" "LengthError" true) rfl)
    · exact absurd e2 (by decide)
    · exact absurd e2 (by decide)
  e_NoMachine := by
    refine ⟨_, He.glo_ok X G (c.fact 41 rfl), fun x C b hx hb => ?_⟩
    have hm := ex_mem hb
    simp only [emL, List.mem_cons, Prod.mk.injEq, List.not_mem_nil, or_false] at hm
    rcases hm with ⟨⟨e1, e2⟩, e3⟩ | ⟨⟨e1, e2⟩, e3⟩ | ⟨⟨e1, e2⟩, e3⟩ | ⟨⟨e1, e2⟩, e3⟩ | ⟨⟨e1, e2⟩, e3⟩ | ⟨⟨e1, e2⟩, e3⟩ | ⟨⟨e1, e2⟩, e3⟩ | ⟨⟨e1, e2⟩, e3⟩ | ⟨⟨e1, e2⟩, e3⟩
    · exact absurd e2 (by decide)
    · subst e1 e3
      have g := He.glo_ok X G (c.fact 40 (f := .glo "LengthError") rfl)
      rw [g] at hx; cases hx
      exact He.exm_ok (c.fact 62 (f := .exm "LengthError" "NoMachine" false) rfl)
    · exact absurd e2 (by decide)
    · exact absurd e2 (by decide)
    · subst e1 e3
      have g := He.glo_ok X G (c.fact 41 (f := .glo "NoMachine") rfl)
      rw [g] at hx; cases hx
      exact He.exm_ok (c.fact 65 (f := .exm "NoMachine" "NoMachine" true) rfl)
    · exact absurd e2 (by decide)
    · exact absurd e2 (by decide)
    · subst e1 e3
      have g := He.glo_ok X G (c.fact 42 (f := .glo "NoText") rfl)
      rw [g] at hx; cases hx
      exact He.exm_ok (c.fact 68 (f := .exm "NoText" "NoMachine" false) rfl)
    · exact absurd e2 (by decide)
  e_NoText := by
    refine ⟨_, He.glo_ok X G (c.fact 42 rfl), fun x C b hx hb => ?_⟩
    have hm := ex_mem hb
    simp only [emL, List.mem_cons, Prod.mk.injEq, List.not_mem_nil, or_false] at hm
    rcases hm with ⟨⟨e1, e2⟩, e3⟩ | ⟨⟨e1, e2⟩, e3⟩ | ⟨⟨e1, e2⟩, e3⟩ | ⟨⟨e1, e2⟩, e3⟩ | ⟨⟨e1, e2⟩, e3⟩ | ⟨⟨e1, e2⟩, e3⟩ | ⟨⟨e1, e2⟩, e3⟩ | ⟨⟨e1, e2⟩, e3⟩ | ⟨⟨e1, e2⟩, e3⟩
    · exact absurd e2 (by decide)
    · exact absurd e2 (by decide)
    · subst e1 e3
      have g := He.glo_ok X G (c.fact 40 (f := .glo "LengthError") rfl)
      rw [g] at hx; cases hx
      exact He.exm_ok (c.fact 63 (f := .exm "LengthError" "NoText" false) rfl)
    · exact absurd e2 (by decide)
    · exact absurd e2 (by decide)
    · subst e1 e3
      have g := He.glo_ok X G (c.fact 41 (f := .glo "NoMachine") rfl)
      rw [g] at hx; cases hx
      exact He.exm_ok (c.fact 66 (f := .exm "NoMachine" "NoText" false) rfl)
    · exact absurd e2 (by decide)
    · exact absurd e2 (by decide)
    · subst e1 e3
      have g := He.glo_ok X G (c.fact 42 (f := .glo "NoText") rfl)
      rw [g] at hx; cases hx
      exact He.exm_ok (c.fact 69 (f := .exm "NoText" "NoText" true) rfl)
end Lw
open PySem PySem.W PySem.Calls PyProof.Rows in
set_option maxHeartbeats 0 in
theorem PySem.Challenge.cw_keptlengths_k02_whole_lengths_of_texts_holds : PySem.Challenge.rw_keptlengths_k02_whole_lengths_of_texts.Holds := by
  w_on; o_law
  refine HandSHeadRun.head_any (r := OpenLaw.row PySem.Challenge.rw_keptlengths_k02_whole_lengths_of_texts) (q := view (OpenLaw.row PySem.Challenge.rw_keptlengths_k02_whole_lengths_of_texts).prog [51]) (H := Lw.hk) (ob := Lw.ob) (M := 20000) (loose := Lw.nmL) (d := HandSHeadRun.topDef (OpenLaw.row PySem.Challenge.rw_keptlengths_k02_whole_lengths_of_texts).prog 51) (kwd := []) Lw.ob_eq
    (by kernel_rfl) (fun s => by kernel_rfl) Lw.run (by kernel_rfl) (by kernel_rfl) (by kernel_rfl) (by rfl) (by first | assumption | decide +kernel) (by decide +kernel) ⟨rfl, rfl, rfl, rfl, rfl, by decide +kernel⟩ ?hw ?hc
  case hw => w_witness2
  case hc =>
    refine L2.walk_ofE (l := PySem.Challenge.rw_keptlengths_k02_whole_lengths_of_texts) (n := 63) (k := 86) (x := "_law_script") (CX := L2.CX0) rfl (by decide) (by kernel_rfl) ⟨rfl, by decide, by decide⟩ ?F (fun _ _ _ _ z => z)
    intro w mg fa h Y G hmg0
    obtain ⟨K, KX, c⟩ := Y
    have hmg : mg ("law" : PySem.Str) = some (.ref fa) := by
      have e : (HandSHeadRun.topDef (OpenLaw.row PySem.Challenge.rw_keptlengths_k02_whole_lengths_of_texts).prog 51).name = ("law" : PySem.Str) := by kernel_rfl
      rw [← e]
      exact hmg0
    exact Mp.law_end KX (Lw.nm KX G c).d_law Lw.bn_law hmg (fun base => Lw.ok_law (Lw.nm KX G c)) Lw.law_true
