import PyProof.Rows.All
import Wide.All
import OpenK.AllK
import Wide.FinOn
import HandS.CallSlots
import HandS.Deep
import HandS.Defaults
import HandS.Dict
import HandS.DictComp
import HandS.Flow
import HandS.ForExc
import HandS.ForMost
import HandS.Head0
import HandS.Head1
import HandS.Head2
import HandS.HeadEnd
import HandS.HeadHook1
import HandS.HeadHook2
import HandS.IsInst
import HandS.More
import HandS.RaiseMore
import HandS.Small
import HandS.SortInts
import HandS.TryMany
import HandS.TupAny
import HandS.TupLe
import HandS.TupMul
import HandS.Walk
import HandS.WideMore
import HandS.WordsDict
import HandS.Zip
import KE.GoesMore
import KE.KStateDown
import PyProof.CallFns
import PyProof.EnumMake
import PyProof.FitsInt
import PyProof.ReprRoads
import PyProof.StrLawsRepr
import PySem.Challenge.RW_keptlengths_k04_whole_states_without_use
set_option Elab.async false
set_option linter.all false
set_option maxRecDepth 100000
set_option maxHeartbeats 4000000
/-! MP, part A: pure data as values, a small heap by index, what stands where, steps. -/
namespace Mp
open PySem PySem.Spec PyProof.Rows L2

/-- a value of the mirror: pure data, an object of the small heap, the well, a def of the module -/
inductive D where
  | p (x : PyData) | ref (i : Nat) | well (i : Nat) | fn (x : Str)

/-- what stands at an index of the small heap -/
inductive G where
  | lst (xs : List D) | dct (kvs : List (L2.Key × D)) | dcT (kvs : List (List L2.Key × D)) | ins (c : Str) (fs : List (Str × D))

abbrev GH := List (Option G)
/-- the state of a mirror: the small heap and the well's own heap -/
structure S where
  g : GH
  w : GH

/-- what a piece of a mirror comes to -/
inductive R (α : Type) where
  | ok (a : α) (s : S) | ex (c : Str) (fs : List (Str × D)) (s : S) | bad

def R.bind {α β : Type} : R α → (α → S → R β) → R β
  | .ok a s, f => f a s
  | .ex c fs s, _ => .ex c fs s
  | .bad, _ => .bad

@[simp] theorem R.bind_ok {α β : Type} {a : α} {s : S} {f : α → S → R β} : (R.ok a s).bind f = f a s := rfl
@[simp] theorem R.bind_ex {α β : Type} {c : Str} {fs : List (Str × D)} {s : S} {f : α → S → R β} : (R.ex c fs s : R α).bind f = .ex c fs s := rfl
@[simp] theorem R.bind_bad {α β : Type} {f : α → S → R β} : (R.bad : R α).bind f = .bad := rfl

abbrev Env1 := List (Option D)
abbrev ME := Env1 → S → R D
abbrev MT := Env1 → S → R Bool
abbrev MA := Env1 → S → R (List D)
/-- a statement's end -/
inductive RS where
  | nx (e : Env1) (s : S) | ret (d : D) (s : S) | brk (e : Env1) (s : S) | cont (e : Env1) (s : S)
  | ex (c : Str) (fs : List (Str × D)) (e : Env1) (s : S) | bad
abbrev MS := Env1 → S → RS

/-! ### what stands for what -/
/-- the module: its written part, its names -/
structure Md where
  K : PySem.W.Frag
  mg : Str → Option Value

/-- a list that nobody changes any more -/
def FzL (K : PySem.W.Frag) (H : Hp) (a : Addr) (vs : List V) : Prop :=
  (∃ o, H a = some (.frz o (.lst vs))) ∨
    ∃ (o : Obj) (its : Array Value) (n : Nat), K.lookup a = some o ∧ o.cls = .type "list" ∧ o.dict = none ∧ o.data = .seq its n ∧ its.size ≤ sizeLine ∧ Vals vs its.toList
theorem FzL.sq {K : PySem.W.Frag} {H : Hp} {a : Addr} {vs : List V} (h : FzL K H a vs) : SqL K H a vs := by
  rcases h with ⟨o, h⟩ | h
  · exact .inl (.inr ⟨o, h⟩)
  · exact .inr h
/-- the pairs of a dict object; keys as data -/
def keyD : Key → PyData
  | .inl i => .int i
  | .inr x => .str x
def FzD (H : Hp) (a : Addr) (l : List (PyData × V)) : Prop := ∃ o kvs, H a = some (.frz o (.dK kvs)) ∧ l = kvs.map fun p => (keyD p.1, p.2)

mutual
def RP (K : PySem.W.Frag) (H : Hp) : PyData → V → Prop
  | .none, v => v = .non
  | .bool b, v => v = .bl b
  | .int i, v => v = .int i
  | .str x, v => v = .str x
  | .tuple ps, v => ∃ a vs, v = .ref a ∧ SqT K H a vs ∧ RPs K H ps vs
  | .list ps, v => ∃ a vs, v = .ref a ∧ FzL K H a vs ∧ RPs K H ps vs
  | .dict kvs, v => ∃ a l, v = .ref a ∧ FzD H a l ∧ RPd K H kvs l
def RPs (K : PySem.W.Frag) (H : Hp) : List PyData → List V → Prop
  | [], vs => vs = []
  | p :: ps, vs => ∃ v r, vs = v :: r ∧ RP K H p v ∧ RPs K H ps r
def RPd (K : PySem.W.Frag) (H : Hp) : List (PyData × PyData) → List (PyData × V) → Prop
  | [], l => l = []
  | (k, p) :: ps, l => ∃ v r, l = (k, v) :: r ∧ RP K H p v ∧ RPd K H ps r
end

/-- what never changes stands -/
def Stay (H H' : Hp) : Prop := ∀ a, (∀ xs, H a = some (.tup xs) → H' a = some (.tup xs)) ∧ (∀ o u, H a = some (.frz o u) → H' a = some (.frz o u))
theorem Stay.sqT {K : PySem.W.Frag} {H H' : Hp} (st : Stay H H') {a : Addr} {vs : List V} (h : SqT K H a vs) : SqT K H' a vs := by
  rcases h with (h | ⟨o, h⟩) | h
  · exact .inl (.inl ((st a).1 _ h))
  · exact .inl (.inr ⟨o, (st a).2 _ _ h⟩)
  · exact .inr h
theorem Stay.fzL {K : PySem.W.Frag} {H H' : Hp} (st : Stay H H') {a : Addr} {vs : List V} (h : FzL K H a vs) : FzL K H' a vs := by
  rcases h with ⟨o, h⟩ | h
  · exact .inl ⟨o, (st a).2 _ _ h⟩
  · exact .inr h
mutual
theorem RP.stay {K : PySem.W.Frag} {H H' : Hp} (st : Stay H H') : ∀ {p : PyData} {v : V}, RP K H p v → RP K H' p v
  | .none, _, h => h
  | .bool _, _, h => h
  | .int _, _, h => h
  | .str _, _, h => h
  | .tuple ps, _, h => by
    simp only [RP] at h ⊢
    obtain ⟨a, vs, e, h1, h2⟩ := h
    exact ⟨a, vs, e, st.sqT h1, RPs.stay st h2⟩
  | .list ps, _, h => by
    simp only [RP] at h ⊢
    obtain ⟨a, vs, e, h1, h2⟩ := h
    exact ⟨a, vs, e, st.fzL h1, RPs.stay st h2⟩
  | .dict kvs, _, h => by
    simp only [RP] at h ⊢
    obtain ⟨a, l, e, ⟨o, u, h1, h3⟩, h2⟩ := h
    exact ⟨a, l, e, ⟨o, u, (st a).2 _ _ h1, h3⟩, RPd.stay st h2⟩
theorem RPs.stay {K : PySem.W.Frag} {H H' : Hp} (st : Stay H H') : ∀ {ps : List PyData} {vs : List V}, RPs K H ps vs → RPs K H' ps vs
  | [], _, h => by simp only [RPs] at h ⊢; exact h
  | p :: ps, _, h => by
    simp only [RPs] at h ⊢
    obtain ⟨v, r, e, h1, h2⟩ := h
    exact ⟨v, r, e, RP.stay st h1, RPs.stay st h2⟩
theorem RPd.stay {K : PySem.W.Frag} {H H' : Hp} (st : Stay H H') : ∀ {ps : List (PyData × PyData)} {l : List (PyData × V)}, RPd K H ps l → RPd K H' ps l
  | [], _, h => by simp only [RPd] at h ⊢; exact h
  | (k, p) :: ps, _, h => by
    simp only [RPd] at h ⊢
    obtain ⟨v, r, e, h1, h2⟩ := h
    exact ⟨v, r, e, RP.stay st h1, RPd.stay st h2⟩
end

/-- the configuration: the mirror's state, where its objects stand, the abstract heap -/
structure Cf where
  s : S
  m : List Addr
  o : List Addr
  H : Hp

/-- a value of the mirror stands for a value; m, o: where the small heap's and the well's objects stand -/
def RD (Y : Md) (m o : List Addr) (H : Hp) : D → V → Prop
  | .p x, v => RP Y.K H x v
  | .ref i, v => ∃ a, m[i]? = some a ∧ v = .ref a
  | .well i, v => ∃ a, o[i]? = some a ∧ v = .ref a
  | .fn x, v => ∃ f, v = .ref f ∧ Y.mg x = some (.ref f)
abbrev RDs (Y : Md) (m o : List Addr) (H : Hp) : List D → List V → Prop := Paired (RD Y m o H)
/-- an object of the small heap stands at an address -/
def RG (Y : Md) (m o : List Addr) (H : Hp) : G → Addr → Prop
  | .lst ds, a => ∃ vs, H a = some (.lst vs) ∧ RDs Y m o H ds vs
  | .dct kvs, a => ∃ l, H a = some (.dK l) ∧ Paired (fun (p : L2.Key × D) (q : L2.Key × V) => p.1 = q.1 ∧ RD Y m o H p.2 q.2) kvs l
  | .dcT kvs, a => ∃ l, H a = some (.dT l) ∧ Paired (fun (p : List L2.Key × D) (q : List L2.Key × V) => p.1 = q.1 ∧ RD Y m o H p.2 q.2) kvs l
  | .ins c fs, a => ∃ C dx fv, Y.mg c = some (.ref C) ∧ H a = some (.ins C dx fv) ∧ H dx = some (.own a) ∧ Paired (fun (p : Str × D) (q : Str × V) => p.1 = q.1 ∧ RD Y m o H p.2 q.2) fs fv

def Alive (g : GH) (m : List Addr) (a : Addr) : Prop := ∃ (i : Nat) (x : G), g[i]? = some (some x) ∧ m[i]? = some a
/-- what the mirror may change -/
def Cf.Own (c : Cf) (a : Addr) : Prop := Alive c.s.g c.m a ∨ Alive c.s.w c.o a

structure Rel (Y : Md) (c : Cf) : Prop where
  g : ∀ (i : Nat) (x : G), c.s.g[i]? = some (some x) → ∃ a, c.m[i]? = some a ∧ RG Y c.m c.o c.H x a
  w : ∀ (i : Nat) (x : G), c.s.w[i]? = some (some x) → ∃ a, c.o[i]? = some a ∧ RG Y c.o [] c.H x a
  gl : c.m.length = c.s.g.length
  wl : c.o.length = c.s.w.length
  gi : ∀ (i j : Nat) (x y : G) (a : Addr), c.s.g[i]? = some (some x) → c.s.g[j]? = some (some y) → c.m[i]? = some a → c.m[j]? = some a → i = j
  wi : ∀ (i j : Nat) (x y : G) (a : Addr), c.s.w[i]? = some (some x) → c.s.w[j]? = some (some y) → c.o[i]? = some a → c.o[j]? = some a → i = j
  gw : ∀ a, Alive c.s.g c.m a → Alive c.s.w c.o a → False

structure Stp (c c' : Cf) : Prop where
  m : ∀ (i : Nat) (a : Addr), c.m[i]? = some a → c'.m[i]? = some a
  o : ∀ (i : Nat) (a : Addr), c.o[i]? = some a → c'.o[i]? = some a
  own : ∀ a, c'.Own a → c.Own a ∨ c.H a = none
  ext : ∀ a u, c.H a = some u → ¬ c.Own a → c'.H a = some u

theorem Stp.refl {c : Cf} : Stp c c := ⟨fun _ _ h => h, fun _ _ h => h, fun _ h => .inl h, fun _ _ h _ => h⟩
theorem Stp.trans {c c1 c2 : Cf} (a : Stp c c1) (b : Stp c1 c2) : Stp c c2 where
  m := fun i x h => b.m i x (a.m i x h)
  o := fun i x h => b.o i x (a.o i x h)
  own := fun x h => by
    rcases b.own x h with h | h
    · exact a.own x h
    · by_cases q : c.Own x
      · exact .inl q
      · right
        cases e : c.H x with
        | none => rfl
        | some u => rw [a.ext x u e q] at h; cases h
  ext := fun x u h n => by
    refine b.ext x u (a.ext x u h n) fun q => ?_
    rcases a.own x q with q | q
    · exact n q
    · rw [h] at q; cases q

/-- what an owned address holds is no tuple, nothing frozen, nobody's own dict -/
def Movable : HO → Prop
  | .lst _ => True
  | .dK _ => True
  | .dT _ => True
  | .ins _ _ _ => True
  | .ext _ => True
  | .set _ _ => True
  | _ => False
theorem RG.movable {Y : Md} {m o : List Addr} {H : Hp} {x : G} {a : Addr} (h : RG Y m o H x a) : ∃ u, H a = some u ∧ Movable u := by
  cases x with
  | lst ds => obtain ⟨vs, e, _⟩ := h; exact ⟨_, e, trivial⟩
  | dct kvs => obtain ⟨l, e, _⟩ := h; exact ⟨_, e, trivial⟩
  | dcT kvs => obtain ⟨l, e, _⟩ := h; exact ⟨_, e, trivial⟩
  | ins c fs => obtain ⟨C, dx, fv, _, e, _⟩ := h; exact ⟨_, e, trivial⟩
theorem Rel.own {Y : Md} {c : Cf} (r : Rel Y c) {a : Addr} (h : c.Own a) : ∃ u, c.H a = some u ∧ Movable u := by
  rcases h with ⟨i, x, h1, h2⟩ | ⟨i, x, h1, h2⟩
  · obtain ⟨b, e, q⟩ := r.g i x h1
    rw [h2] at e; cases e
    exact q.movable
  · obtain ⟨b, e, q⟩ := r.w i x h1
    rw [h2] at e; cases e
    exact q.movable
theorem Rel.notOwn {Y : Md} {c : Cf} (r : Rel Y c) {a : Addr} {u : HO} (h : c.H a = some u) (n : ¬ Movable u) : ¬ c.Own a := fun q => by
  obtain ⟨u', e, mv⟩ := r.own q
  rw [h] at e; cases e
  exact n mv
theorem Rel.freshOwn {Y : Md} {c : Cf} (r : Rel Y c) {a : Addr} (h : c.H a = none) : ¬ c.Own a := fun q => by
  obtain ⟨u', e, mv⟩ := r.own q
  rw [h] at e; cases e
theorem Stp.stay {Y : Md} {c c' : Cf} (st : Stp c c') (r : Rel Y c) : Stay c.H c'.H := fun a =>
  ⟨fun xs h => st.ext a _ h (r.notOwn h fun z => z), fun o u h => st.ext a _ h (r.notOwn h fun z => z)⟩
theorem RD.up {Y : Md} {m o m' o' : List Addr} {H H' : Hp} (hm : ∀ (i : Nat) (a : Addr), m[i]? = some a → m'[i]? = some a) (ho : ∀ (i : Nat) (a : Addr), o[i]? = some a → o'[i]? = some a) (st : Stay H H') {d : D} {v : V} (h : RD Y m o H d v) : RD Y m' o' H' d v := by
  cases d with
  | p x => exact RP.stay st h
  | ref i => obtain ⟨a, e, rfl⟩ := h; exact ⟨a, hm _ _ e, rfl⟩
  | well i => obtain ⟨a, e, rfl⟩ := h; exact ⟨a, ho _ _ e, rfl⟩
  | fn x => exact h
theorem RDs.up {Y : Md} {m o m' o' : List Addr} {H H' : Hp} (hm : ∀ (i : Nat) (a : Addr), m[i]? = some a → m'[i]? = some a) (ho : ∀ (i : Nat) (a : Addr), o[i]? = some a → o'[i]? = some a) (st : Stay H H') {ds : List D} {vs : List V} (h : RDs Y m o H ds vs) : RDs Y m' o' H' ds vs :=
  Paired.mapP h fun _ _ q => RD.up hm ho st q
/-- an object that is not touched stays -/
theorem RG.up {Y : Md} {m o m' o' : List Addr} {H H' : Hp} (hm : ∀ (i : Nat) (a : Addr), m[i]? = some a → m'[i]? = some a) (ho : ∀ (i : Nat) (a : Addr), o[i]? = some a → o'[i]? = some a) (st : Stay H H')
    {x : G} {a : Addr} (h : RG Y m o H x a) (ha : ∀ u, H a = some u → H' a = some u) (hd : ∀ d, H d = some (.own a) → H' d = some (.own a)) : RG Y m' o' H' x a := by
  cases x with
  | lst ds => obtain ⟨vs, e, q⟩ := h; exact ⟨vs, ha _ e, RDs.up hm ho st q⟩
  | dct kvs => obtain ⟨l, e, q⟩ := h; exact ⟨l, ha _ e, Paired.mapP q fun _ _ z => ⟨z.1, RD.up hm ho st z.2⟩⟩
  | dcT kvs => obtain ⟨l, e, q⟩ := h; exact ⟨l, ha _ e, Paired.mapP q fun _ _ z => ⟨z.1, RD.up hm ho st z.2⟩⟩
  | ins c fs => obtain ⟨C, dx, fv, h1, e, h2, q⟩ := h; exact ⟨C, dx, fv, h1, ha _ e, hd _ h2, Paired.mapP q fun _ _ z => ⟨z.1, RD.up hm ho st z.2⟩⟩

/-- a new object that the mirror does not hold as its own: a tuple, something frozen -/
def Cf.at (c : Cf) (t : Addr) (u : HO) : Cf := { c with H := upd c.H t u }
theorem upd_stay {H : Hp} {t : Addr} {u : HO} (n : H t = none) : ∀ a v, H a = some v → upd H t u a = some v := fun a v h => by
  rw [upd_ne (ne_of_none h n)]; exact h
theorem stay_of {H H' : Hp} (h : ∀ a v, H a = some v → H' a = some v) : Stay H H' := fun a => ⟨fun _ q => h _ _ q, fun _ _ q => h _ _ q⟩
theorem Rel.at {Y : Md} {c : Cf} (r : Rel Y c) {t : Addr} {u : HO} (n : c.H t = none) : Rel Y (c.at t u) where
  g := fun i x h => by
    obtain ⟨a, e, q⟩ := r.g i x h
    exact ⟨a, e, q.up (fun _ _ z => z) (fun _ _ z => z) (stay_of (upd_stay n)) (fun v z => upd_stay n a v z) (fun d z => upd_stay n d _ z)⟩
  w := fun i x h => by
    obtain ⟨a, e, q⟩ := r.w i x h
    exact ⟨a, e, q.up (fun _ _ z => z) (fun _ _ z => z) (stay_of (upd_stay n)) (fun v z => upd_stay n a v z) (fun d z => upd_stay n d _ z)⟩
  gl := r.gl
  wl := r.wl
  gi := r.gi
  wi := r.wi
  gw := r.gw
theorem Stp.at {c : Cf} {t : Addr} {u : HO} (n : c.H t = none) : Stp c (c.at t u) := ⟨fun _ _ h => h, fun _ _ h => h, fun _ h => .inl h, fun a v h _ => upd_stay n a v h⟩

/-- a new object of the mirror's own -/
def Cf.new (c : Cf) (t : Addr) (u : HO) (x : G) : Cf := ⟨{ c.s with g := c.s.g ++ [some x] }, c.m ++ [t], c.o, upd c.H t u⟩
theorem get_app {α : Type} {l r : List α} {i : Nat} {x : α} (h : l[i]? = some x) : (l ++ r)[i]? = some x := by
  have h1 : i < l.length := (List.getElem?_eq_some_iff.mp h).1
  rw [List.getElem?_append_left h1]; exact h
theorem get_app_one {α : Type} {l : List α} {y : α} {i : Nat} {x : α} (h : (l ++ [y])[i]? = some x) : l[i]? = some x ∨ (i = l.length ∧ x = y) := by
  by_cases h1 : i < l.length
  · rw [List.getElem?_append_left h1] at h; exact .inl h
  · rw [List.getElem?_append_right (by omega)] at h
    have h2 : i - l.length = 0 := by
      cases e : i - l.length with
      | zero => rfl
      | succ k => rw [e] at h; simp at h
    rw [h2] at h
    simp at h
    exact .inr ⟨by omega, h.symm⟩
theorem Rel.lt {Y : Md} {c : Cf} (r : Rel Y c) {i : Nat} {a : Addr} (h : c.m[i]? = some a) : i < c.s.g.length := by
  rw [← r.gl]; exact (List.getElem?_eq_some_iff.mp h).1
theorem Rel.new {Y : Md} {c : Cf} (r : Rel Y c) {t : Addr} {u : HO} {x : G} (n : c.H t = none) (hx : RG Y (c.m ++ [t]) c.o (upd c.H t u) x t) : Rel Y (c.new t u x) := by
  have hm : ∀ (i : Nat) (a : Addr), c.m[i]? = some a → (c.m ++ [t])[i]? = some a := fun i a h => get_app h
  have alive : ∀ (i : Nat) (y : G) (a : Addr), c.s.g[i]? = some (some y) → c.m[i]? = some a → a ≠ t := fun i y a h1 h2 z => by
    subst z
    exact r.freshOwn n (.inl ⟨i, y, h1, h2⟩)
  have aliveW : ∀ (i : Nat) (y : G) (a : Addr), c.s.w[i]? = some (some y) → c.o[i]? = some a → a ≠ t := fun i y a h1 h2 z => by
    subst z
    exact r.freshOwn n (.inr ⟨i, y, h1, h2⟩)
  have cas : ∀ (i : Nat) (y : G) (a : Addr), (c.s.g ++ [some x])[i]? = some (some y) → (c.m ++ [t])[i]? = some a → (c.s.g[i]? = some (some y) ∧ c.m[i]? = some a) ∨ (i = c.s.g.length ∧ a = t) := fun i y a h1 h2 => by
    rcases get_app_one h1 with h1 | ⟨e, _⟩
    · left
      rcases get_app_one h2 with h2 | ⟨e, _⟩
      · exact ⟨h1, h2⟩
      · have := (List.getElem?_eq_some_iff.mp h1).1
        rw [e, r.gl] at this; omega
    · right
      refine ⟨e, ?_⟩
      rcases get_app_one h2 with h2 | ⟨_, e2⟩
      · have := r.lt h2; omega
      · exact e2
  refine ⟨fun i y h => ?_, fun i y h => ?_, by simp [Cf.new, r.gl], r.wl, fun i j y z a h1 h2 h3 h4 => ?_, r.wi, fun a h1 h2 => ?_⟩
  · rcases get_app_one h with h | ⟨e, ey⟩
    · obtain ⟨a, e, q⟩ := r.g i y h
      exact ⟨a, get_app e, q.up hm (fun _ _ z => z) (stay_of (upd_stay n)) (fun v z => upd_stay n a v z) (fun d z => upd_stay n d _ z)⟩
    · cases ey
      refine ⟨t, ?_, hx⟩
      show (c.m ++ [t])[i]? = some t
      rw [e, ← r.gl]; simp
  · obtain ⟨a, e, q⟩ := r.w i y h
    exact ⟨a, e, q.up (fun _ _ z => z) (fun _ _ z => z) (stay_of (upd_stay n)) (fun v z => upd_stay n a v z) (fun d z => upd_stay n d _ z)⟩
  · rcases cas i y a h1 h3 with ⟨p1, p2⟩ | ⟨p1, p2⟩
    · rcases cas j z a h2 h4 with ⟨q1, q2⟩ | ⟨q1, q2⟩
      · exact r.gi i j y z a p1 q1 p2 q2
      · exact absurd q2 (alive i y a p1 p2)
    · rcases cas j z a h2 h4 with ⟨q1, q2⟩ | ⟨q1, q2⟩
      · exact absurd p2 (alive j z a q1 q2)
      · omega
  · obtain ⟨i, y, h1, h3⟩ := h1
    rcases cas i y a h1 h3 with ⟨p1, p2⟩ | ⟨p1, p2⟩
    · exact r.gw a ⟨i, y, p1, p2⟩ h2
    · obtain ⟨j, z, q1, q2⟩ := h2
      exact aliveW j z a q1 q2 p2
theorem Stp.new {Y : Md} {c : Cf} (r : Rel Y c) {t : Addr} {u : HO} {x : G} (n : c.H t = none) : Stp c (c.new t u x) where
  m := fun i a h => get_app h
  o := fun _ _ h => h
  own := fun a h => by
    rcases h with ⟨i, y, h1, h2⟩ | h
    · rcases get_app_one h2 with h2 | ⟨_, e⟩
      · rcases get_app_one h1 with h1 | ⟨e, _⟩
        · exact .inl (.inl ⟨i, y, h1, h2⟩)
        · have := r.lt h2; omega
      · subst e; exact .inr n
    · exact .inl (.inr h)
  ext := fun a v h _ => upd_stay n a v h

/-- an object of the mirror's own is changed -/
def Cf.put (c : Cf) (i : Nat) (a : Addr) (u : HO) (x : Option G) : Cf := ⟨{ c.s with g := c.s.g.set i x }, c.m, c.o, upd c.H a u⟩
theorem set_get {α : Type} {l : List α} {i j : Nat} {x y : α} (h : (l.set i x)[j]? = some y) : (j ≠ i ∧ l[j]? = some y) ∨ (j = i ∧ y = x) := by
  by_cases e : j = i
  · subst e
    have h1 : j < l.length := by
      have := (List.getElem?_eq_some_iff.mp h).1
      simpa using this
    rw [List.getElem?_set_self h1] at h
    exact .inr ⟨rfl, (Option.some.inj h).symm⟩
  · rw [List.getElem?_set_ne (Ne.symm e)] at h
    exact .inl ⟨e, h⟩
theorem Rel.put {Y : Md} {c : Cf} (r : Rel Y c) {i : Nat} {a : Addr} {u : HO} {x₀ : G} {x : Option G} (h0 : c.s.g[i]? = some (some x₀)) (ha : c.m[i]? = some a)
    (hx : ∀ y, x = some y → RG Y c.m c.o (upd c.H a u) y a) (hst : Stay c.H (upd c.H a u)) : Rel Y (c.put i a u x) := by
  have cas : ∀ (j : Nat) (y : G) (b : Addr), (c.s.g.set i x)[j]? = some (some y) → c.m[j]? = some b → (j ≠ i ∧ c.s.g[j]? = some (some y) ∧ b ≠ a) ∨ (j = i ∧ x = some y ∧ b = a) := fun j y b h1 h2 => by
    rcases set_get h1 with ⟨e, g1⟩ | ⟨e, g1⟩
    · exact .inl ⟨e, g1, fun z => by subst z; exact e (r.gi j i y x₀ b g1 h0 h2 ha)⟩
    · subst e
      rw [ha] at h2; cases h2
      exact .inr ⟨rfl, g1.symm, rfl⟩
  have keep : ∀ b, b ≠ a → ∀ v, c.H b = some v → upd c.H a u b = some v := fun b e v h => by rw [upd_ne e]; exact h
  have nown : ∀ (b d : Addr), c.H d = some (.own b) → upd c.H a u d = some (.own b) := fun b d h => by
    refine keep d (fun z => ?_) _ h
    subst z
    exact r.notOwn h (fun z => z) (.inl ⟨i, x₀, h0, ha⟩)
  refine ⟨fun j y h => ?_, fun j y h => ?_, by simp [Cf.put, r.gl], r.wl, fun j k y z b h1 h2 h3 h4 => ?_, r.wi, fun b h1 h2 => ?_⟩
  · rcases set_get h with ⟨e, g1⟩ | ⟨e, g1⟩
    · obtain ⟨b, e2, q⟩ := r.g j y g1
      refine ⟨b, e2, q.up (fun _ _ z => z) (fun _ _ z => z) hst (fun v z => keep b ?_ v z) (fun d z => nown b d z)⟩
      intro z; subst z
      exact e (r.gi j i y x₀ b g1 h0 e2 ha)
    · subst e
      exact ⟨a, ha, hx y g1.symm⟩
  · obtain ⟨b, e2, q⟩ := r.w j y h
    refine ⟨b, e2, q.up (fun _ _ z => z) (fun _ _ z => z) hst (fun v z => keep b ?_ v z) (fun d z => nown b d z)⟩
    intro z; subst z
    exact r.gw b ⟨i, x₀, h0, ha⟩ ⟨j, y, h, e2⟩
  · rcases cas j y b h1 h3 with ⟨p1, p2, p3⟩ | ⟨p1, p2, p3⟩
    · rcases cas k z b h2 h4 with ⟨q1, q2, q3⟩ | ⟨q1, q2, q3⟩
      · exact r.gi j k y z b p2 q2 h3 h4
      · exact absurd q3 p3
    · rcases cas k z b h2 h4 with ⟨q1, q2, q3⟩ | ⟨q1, q2, q3⟩
      · exact absurd p3 q3
      · omega
  · obtain ⟨j, y, h1, h3⟩ := h1
    rcases cas j y b h1 h3 with ⟨p1, p2, p3⟩ | ⟨p1, p2, p3⟩
    · exact r.gw b ⟨j, y, p2, h3⟩ h2
    · subst p3
      exact r.gw b ⟨i, x₀, h0, ha⟩ h2
theorem Stp.put {c : Cf} {i : Nat} {a : Addr} {u : HO} {x₀ : G} {x : Option G} (h0 : c.s.g[i]? = some (some x₀)) (ha : c.m[i]? = some a) : Stp c (c.put i a u x) where
  m := fun _ _ h => h
  o := fun _ _ h => h
  own := fun b h => by
    rcases h with ⟨j, y, h1, h2⟩ | h
    · rcases set_get h1 with ⟨e, g1⟩ | ⟨e, g1⟩
      · exact .inl (.inl ⟨j, y, g1, h2⟩)
      · subst e; exact .inl (.inl ⟨j, x₀, h0, h2⟩)
    · exact .inl (.inr h)
  ext := fun b v h n => by
    have e : b ≠ a := fun z => by subst z; exact n (.inl ⟨i, x₀, h0, ha⟩)
    show upd c.H a u b = some v
    rw [upd_ne e]; exact h
end Mp

/-! MP, part B: what a mirror says of a piece of syntax; names, constants, operators, tests, tuples, lists. -/
namespace Mp
open PySem PySem.Spec PyProof.Rows L2

/-- an exception: its class by name, its fields -/
def XR (Y : Md) (c : Cf) (x : Str) (fs : List (Str × D)) (cv : Value) (dx : Option Addr) : Prop :=
  ∃ C, cv = .ref C ∧ Y.mg x = some (.ref C) ∧ ((fs = [] ∧ dx = none) ∨
    ∃ d fv, dx = some d ∧ c.H d = some (.xd fv) ∧ Paired (fun (p : Str × D) (q : Str × V) => p.1 = q.1 ∧ RD Y c.m c.o c.H p.2 q.2) fs fv)

def Post {α β : Type} (Y : Md) (RA : Cf → α → β → Prop) (WE : Value → Option Addr → Hp → Prop) (c : Cf) (r : R α) (Q : β → Hp → Prop) : Prop :=
  match r with
  | .ok a s' => ∀ b c', c'.s = s' → Stp c c' → Rel Y c' → RA c' a b → Q b c'.H
  | .ex x fs s' => ∀ cv dx c', c'.s = s' → Stp c c' → Rel Y c' → XR Y c' x fs cv dx → WE cv dx c'.H
  | .bad => False

section
variable {α β γ δ : Type} {Y : Md} {RA : Cf → α → β → Prop} {RC : Cf → γ → δ → Prop} {WE : Value → Option Addr → Hp → Prop} {c c' : Cf}
theorem Post.step {r : R α} {Q : β → Hp → Prop} (h : Post Y RA WE c r Q) (st : Stp c c') : Post Y RA WE c' r Q := by
  cases r with
  | ok a s' => exact fun b c2 e s2 r2 ra => h b c2 e (st.trans s2) r2 ra
  | ex x fs s' => exact fun cv dx c2 e s2 r2 xr => h cv dx c2 e (st.trans s2) r2 xr
  | bad => exact h
theorem Post.mono {r : R α} {Q Q' : β → Hp → Prop} (h : Post Y RA WE c r Q) (i : ∀ b H, Q b H → Q' b H) : Post Y RA WE c r Q' := by
  cases r with
  | ok a s' => exact fun b c2 e s2 r2 ra => i _ _ (h b c2 e s2 r2 ra)
  | ex x fs s' => exact h
  | bad => exact h
/-- one piece, then what follows -/
theorem Post.bind {ra : R α} {f : α → S → R γ} {Q : δ → Hp → Prop} {Q1 : β → Hp → Prop} (h : Post Y RC WE c (ra.bind f) Q)
    (k : ∀ a b c1, Stp c c1 → Rel Y c1 → RA c1 a b → Post Y RC WE c1 (f a c1.s) Q → Q1 b c1.H) : Post Y RA WE c ra Q1 := by
  cases ra with
  | ok a s' => exact fun b c2 e s2 r2 ra => k a b c2 s2 r2 ra (by rw [e]; exact h.step s2)
  | ex x fs s' => exact h
  | bad => exact h
theorem Post.here {a : α} {b : β} {Q : β → Hp → Prop} (h : Post Y RA WE c (.ok a c.s) Q) (r : Rel Y c) (ra : RA c a b) : Q b c.H := h b c rfl Stp.refl r ra
end

abbrev yx (X : Cx) : Md := ⟨X.K, X.mg⟩
abbrev rd (Y : Md) : Cf → D → V → Prop := fun c d v => RD Y c.m c.o c.H d v
abbrev rds (Y : Md) : Cf → List D → List V → Prop := fun c d v => RDs Y c.m c.o c.H d v
abbrev rb : Cf → Bool → Bool → Prop := fun _ a b => a = b
theorem RD.step {Y : Md} {c c' : Cf} (r : Rel Y c) (st : Stp c c') {d : D} {v : V} (h : RD Y c.m c.o c.H d v) : RD Y c'.m c'.o c'.H d v := h.up st.m st.o (st.stay r)
theorem RDs.step {Y : Md} {c c' : Cf} (r : Rel Y c) (st : Stp c c') {d : List D} {v : List V} (h : RDs Y c.m c.o c.H d v) : RDs Y c'.m c'.o c'.H d v := RDs.up st.m st.o (st.stay r) h
/-- the names -/
def RE (Y : Md) (c : Cf) (env : Env1) (σ : L2.St) : Prop := env.length = σ.length ∧ ∀ (i : Nat) (d : D), env[i]? = some (some d) → ∃ v, σ[i]? = some (some v) ∧ RD Y c.m c.o c.H d v
theorem RE.step {Y : Md} {c c' : Cf} (r : Rel Y c) (st : Stp c c') {env : Env1} {σ : L2.St} (h : RE Y c env σ) : RE Y c' env σ :=
  ⟨h.1, fun i d e => let ⟨v, e1, q⟩ := h.2 i d e; ⟨v, e1, q.step r st⟩⟩
theorem RE.set {Y : Md} {c : Cf} {env : Env1} {σ : L2.St} (h : RE Y c env σ) (i : Nat) {d : D} {v : V} (q : RD Y c.m c.o c.H d v) : RE Y c (env.set i (some d)) (σ.set i (some v)) := by
  refine ⟨by simp [h.1], fun j d' ed => ?_⟩
  rcases set_get ed with ⟨ne, e⟩ | ⟨rfl, e⟩
  · obtain ⟨v', e1, q1⟩ := h.2 j d' e
    exact ⟨v', by rw [List.getElem?_set_ne (Ne.symm ne)]; exact e1, q1⟩
  · cases e
    have hl : j < σ.length := by
      rw [← h.1]
      have := (List.getElem?_eq_some_iff.mp ed).1
      simpa using this
    exact ⟨v, by rw [List.getElem?_set_self hl], q⟩
theorem RE.unset {Y : Md} {c : Cf} {env : Env1} {σ : L2.St} (h : RE Y c env σ) (i : Nat) : RE Y c (env.set i none) (σ.set i none) := by
  refine ⟨by simp [h.1], fun j d' ed => ?_⟩
  rcases set_get ed with ⟨ne, e⟩ | ⟨rfl, e⟩
  · obtain ⟨v', e1, q1⟩ := h.2 j d' e
    exact ⟨v', by rw [List.getElem?_set_ne (Ne.symm ne)]; exact e1, q1⟩
  · cases e

/-- what a mirror says -/
def LE (X : Cx) (W : WX) (m : ME) : TE := fun σ H Q => ∃ env c, c.H = H ∧ RE (yx X) c env σ ∧ Rel (yx X) c ∧ Post (yx X) (rd (yx X)) (fun cv dx H' => W cv dx σ H') c (m env c.s) Q
def LT (X : Cx) (W : WX) (m : MT) : TT := fun σ H Q => ∃ env c, c.H = H ∧ RE (yx X) c env σ ∧ Rel (yx X) c ∧ Post (yx X) rb (fun cv dx H' => W cv dx σ H') c (m env c.s) Q
def LA (X : Cx) (W : WX) (m : MA) : TA := fun σ H Q => ∃ env c, c.H = H ∧ RE (yx X) c env σ ∧ Rel (yx X) c ∧ Post (yx X) (rds (yx X)) (fun cv dx H' => W cv dx σ H') c (m env c.s) Q

theorem _root_.L2.PE.imp {X : Cx} {e : Expr} {t t' : TE} (h : PE X e t) (i : ∀ σ H Q, t' σ H Q → t σ H Q) : PE X e t' := ⟨fun pins s σ H Q I q => h.run pins s σ H Q I (i σ H Q q)⟩
theorem _root_.L2.PT.imp {X : Cx} {e : Expr} {t t' : TT} (h : PT X e t) (i : ∀ σ H Q, t' σ H Q → t σ H Q) : PT X e t' := ⟨fun pins s σ H Q I q => h.run pins s σ H Q I (i σ H Q q)⟩
theorem _root_.L2.PW.imp {X : Cx} {e : Expr} {t t' : TT} (h : PW X e t) (i : ∀ σ H Q, t' σ H Q → t σ H Q) : PW X e t' := ⟨fun wh pins s σ H Q I q => h.run wh pins s σ H Q I (i σ H Q q)⟩
theorem _root_.L2.PA.imp {X : Cx} {e : List Expr} {t t' : TA} (h : PA X e t) (i : ∀ σ H Q, t' σ H Q → t σ H Q) : PA X e t' := ⟨fun pos pins s σ H Q I q => h.run pos pins s σ H Q I (i σ H Q q)⟩
theorem _root_.L2.PS.imp {X : Cx} {e : Stmt} {t t' : TS} (h : PS X e t) (i : ∀ D σ H, t' D σ H → t D σ H) : PS X e t' := ⟨fun pins s σ H D I q => h.run pins s σ H D I (i D σ H q)⟩
theorem _root_.L2.PSs.imp {X : Cx} {e : List Stmt} {t t' : TS} (h : PSs X e t) (i : ∀ D σ H, t' D σ H → t D σ H) : PSs X e t' := ⟨fun pins s σ H D I q => h.run pins s σ H D I (i D σ H q)⟩

section
variable {X : Cx} {W : WX} {pos : Pos} {a b : Expr} {ma mb : ME}

/-! ### names, constants -/
def mVar (i : Nat) : ME := fun env s => match env[i]? with
  | some (some d) => .ok d s
  | _ => .bad
def mK (x : PyData) : ME := fun _ s => .ok (.p x) s
theorem e_var {i : Nat} {x : Str} (hN : X.N[i]? = some x := by rfl) (hv : Vis X.env.scope x := by first | exact Or.inl rfl | exact Or.inr (Or.inl rfl) | exact Or.inr (Or.inr rfl)) (hd : (x == ("__debug__" : Str)) = false := by decide)
    (hcd : (x == ("__classdict__" : Str)) = false := by decide) : PE X (.Name x pos) (LE X W (mVar i)) := by
  refine (pe_var (i := i) hN hv hd hcd).imp fun σ H Q ⟨env, c, e, re, r, h⟩ => ?_
  subst e
  unfold mVar at h
  split at h
  · rename_i d ed
    obtain ⟨v, e1, q⟩ := re.2 i d ed
    exact ⟨v, e1, h.here r q⟩
  · exact h.elim
theorem e_of_tC {e : Expr} {v : V} {x : PyData} (h : PE X e (tC v)) (q : ∀ H, RP X.K H x v) : PE X e (LE X W (mK x)) :=
  h.imp fun σ H Q ⟨env, c, e, re, r, h⟩ => by subst e; exact Post.here (Y := yx X) (RA := rd (yx X)) (a := D.p x) (b := v) h r (q c.H)
theorem e_int {i : Int} {j : Nat} : PE X (.Constant (.int i) j pos) (LE X W (mK (.int i))) := e_of_tC pe_int fun _ => by simp [RP]
theorem e_bool {i : Bool} {j : Nat} : PE X (.Constant (.bool i) j pos) (LE X W (mK (.bool i))) := e_of_tC pe_bl fun _ => by simp [RP]
theorem e_none {j : Nat} : PE X (.Constant .none j pos) (LE X W (mK .none)) := e_of_tC pe_non fun _ => by simp [RP]
theorem e_str {x : Str} {j : Nat} : PE X (.Constant (.str x) j pos) (LE X W (mK (.str x))) := e_of_tC pe_str fun _ => by simp [RP]
/-- a constant of the module -/
theorem e_glob {x : Str} {v : V} {u : Value} {y : PyData} (hg : Gl X x) (hm : X.mg x = some u) (r : RelV v u) (q : ∀ H, RP X.K H y v) (hd : (x == ("__debug__" : Str)) = false := by decide) : PE X (.Name x pos) (LE X W (mK y)) := e_of_tC (pe_glob hg hm r hd) q

/-! ### operators by values -/
def Link2 (Y : Md) (f : D → D → S → R D) (r : R2) : Prop := ∀ WE c d1 d2 v1 v2 Q, Rel Y c → rd Y c d1 v1 → rd Y c d2 v2 → Post Y (rd Y) WE c (f d1 d2 c.s) Q → r v1 v2 c.H Q
def Link1 (Y : Md) (f : D → S → R D) (r : V → Hp → VK → Prop) : Prop := ∀ WE c d1 v1 Q, Rel Y c → rd Y c d1 v1 → Post Y (rd Y) WE c (f d1 c.s) Q → r v1 c.H Q
/-- a two-place operation of the model does what f says -/
def Op2 (X : Cx) (g : Value → Value → Sem Value) (f : D → D → S → R D) : Prop := ∃ r, OpR X g r ∧ Link2 (yx X) f r
def Op1 (X : Cx) (g : Value → Sem Value) (f : D → S → R D) : Prop := ∃ r, UnR X g r ∧ Link1 (yx X) f r
def mBin (f : D → D → S → R D) (ma mb : ME) : ME := fun env s => (ma env s).bind fun d1 s1 => (mb env s1).bind fun d2 s2 => f d1 d2 s2
def mUn (f : D → S → R D) (ma : ME) : ME := fun env s => (ma env s).bind fun d1 s1 => f d1 s1
theorem tOp_of {r : R2} {f : D → D → S → R D} (hl : Link2 (yx X) f r) {σ : L2.St} {H : Hp} {Q : VK} (h : LE X W (mBin f ma mb) σ H Q) : tOp r (LE X W ma) (LE X W mb) σ H Q := by
  obtain ⟨env, c, e, re, rr, h⟩ := h
  refine ⟨env, c, e, re, rr, h.bind fun d1 v1 c1 s1 r1 q1 h1 => ⟨env, c1, rfl, re.step rr s1, r1, h1.bind fun d2 v2 c2 s2 r2 q2 h2 => ?_⟩⟩
  exact hl _ c2 d1 d2 v1 v2 Q r2 (q1.step r1 s2) q2 h2
theorem e_bin {op : Operator} {f : D → D → S → R D} (ho : Op2 X (binaryOp op) f) (ha : PE X a (LE X W ma)) (hb : PE X b (LE X W mb)) : PE X (.BinOp a op b pos) (LE X W (mBin f ma mb)) := by
  obtain ⟨r, hr, hl⟩ := ho
  exact (pe_op hr ha hb).imp fun σ H Q h => tOp_of hl h
theorem e_cmp {op : CmpOp} {f : D → D → S → R D} (ho : Op2 X (compareOp op) f) (ha : PE X a (LE X W ma)) (hb : PE X b (LE X W mb)) (hm : behindInMarks op b = false) : PE X (.Compare a [op] [b] pos) (LE X W (mBin f ma mb)) := by
  obtain ⟨r, hr, hl⟩ := ho
  exact (pe_cmpR hr ha hb hm).imp fun σ H Q h => tOp_of hl h
theorem e_un {op : UnaryOp} {f : D → S → R D} (ho : Op1 X (unaryOp op) f) (ha : PE X a (LE X W ma)) : PE X (.UnaryOp op a pos) (LE X W (mUn f ma)) := by
  obtain ⟨r, hr, hl⟩ := ho
  refine (pe_un hr ha).imp fun σ H Q ⟨env, c, e, re, rr, h⟩ => ?_
  exact ⟨env, c, e, re, rr, h.bind fun d1 v1 c1 s1 r1 q1 h1 => hl _ c1 d1 v1 Q r1 q1 h1⟩

/-! ### truth -/
def sizeOk (n : Nat) : Bool := decide (n ≤ sizeLine)
def ptruth : PyData → Option Bool
  | .none => some false
  | .bool b => some b
  | .int i => some (i != 0)
  | .str x => if sizeOk x.length then some (x.length != 0) else none
  | .tuple xs => some (!xs.isEmpty)
  | .list xs => some (!xs.isEmpty)
  | _ => none
def truth (d : D) (s : S) : R Bool := match d with
  | .p x => match ptruth x with
    | some b => .ok b s
    | none => .bad
  | .ref i => match s.g[i]? with
    | some (some (.lst xs)) => .ok (!xs.isEmpty) s
    | _ => .bad
  | _ => .bad
theorem RPs.isEmpty {K : PySem.W.Frag} {H : Hp} {ps : List PyData} {vs : List V} (h : RPs K H ps vs) : ps.isEmpty = vs.isEmpty := by
  cases ps with
  | nil => simp only [RPs] at h; subst h; rfl
  | cons p ps => simp only [RPs] at h; obtain ⟨v, r, e, _⟩ := h; rw [e]; rfl
theorem RPs.length {K : PySem.W.Frag} {H : Hp} : ∀ {ps : List PyData} {vs : List V}, RPs K H ps vs → ps.length = vs.length
  | [], _, h => by simp only [RPs] at h; subst h; rfl
  | p :: ps, _, h => by simp only [RPs] at h; obtain ⟨v, r, e, _, h⟩ := h; rw [e]; simp [RPs.length h]
theorem Paired.isEmpty {α β : Type} {F : α → β → Prop} {l₁ : List α} {l₂ : List β} (h : Paired F l₁ l₂) : l₁.isEmpty = l₂.isEmpty := by
  cases h <;> rfl
theorem ptruth_ok {K : PySem.W.Frag} {H : Hp} {x : PyData} {v : V} {b : Bool} (h : RP K H x v) (e : ptruth x = some b) : TruV K v H b := by
  cases x with
  | none => simp only [RP] at h; subst h; simp [ptruth] at e; subst e; rfl
  | bool k => simp only [RP] at h; subst h; simp [ptruth] at e; subst e; rfl
  | int i => simp only [RP] at h; subst h; simp [ptruth] at e; subst e; rfl
  | str z =>
    simp only [RP] at h; subst h
    simp only [ptruth] at e
    split at e
    · rename_i hs
      cases e
      refine ⟨of_decide_eq_true hs, ?_⟩
      cases z.length with
      | zero => rfl
      | succ n =>
        have h1 : ((n + 1 : Nat) != 0) = true := by simp
        have h2 : (((n + 1 : Nat) : Int) != 0) = true := by
          rw [bne_iff_ne]; intro q; omega
        rw [h1, h2]
    · cases e
  | tuple xs =>
    simp only [RP] at h; obtain ⟨p, vs, rfl, h1, h2⟩ := h
    simp only [ptruth, Option.some.injEq] at e; subst e
    exact .inr (.inl ⟨vs, h1, by have := h2.isEmpty; simp [this]⟩)
  | list xs =>
    simp only [RP] at h; obtain ⟨p, vs, rfl, h1, h2⟩ := h
    simp only [ptruth, Option.some.injEq] at e; subst e
    exact .inl ⟨vs, h1.sq, by have := h2.isEmpty; simp [this]⟩
  | dict kvs => simp [ptruth] at e
theorem truth_ok {Y : Md} {WE : Value → Option Addr → Hp → Prop} {c : Cf} {d : D} {v : V} {Q : Bool → Hp → Prop} (r : Rel Y c) (q : RD Y c.m c.o c.H d v) (h : Post Y rb WE c (truth d c.s) Q) : ∃ k, TruV Y.K v c.H k ∧ Q k c.H := by
  unfold truth at h
  cases d with
  | p x =>
    simp only at h
    cases e : ptruth x with
    | none => rw [e] at h; exact h.elim
    | some b => rw [e] at h; exact ⟨b, ptruth_ok q e, h.here r rfl⟩
  | ref i =>
    simp only at h
    split at h
    · rename_i xs e
      obtain ⟨p, e1, vs, e2, q2⟩ := r.g i _ e
      obtain ⟨p', e1', rfl⟩ := q
      rw [e1] at e1'; cases e1'
      exact ⟨!xs.isEmpty, .inl ⟨vs, SqL.of e2, by rw [Paired.isEmpty q2]⟩, h.here r rfl⟩
    · exact h.elim
  | well i => exact h.elim
  | fn x => exact h.elim
def mTru (ma : ME) : MT := fun env s => (ma env s).bind truth
theorem t_tru (ha : PE X a (LE X W ma)) (he : ∀ whole, isTrue a X.env whole = (do let v ← whole; standAt a.pos; holding [v] (truthy v)) := by intro _; rfl) : PT X a (LT X W (mTru ma)) := by
  refine (pt_truth ha he).imp fun σ H Q ⟨env, c, e, re, rr, h⟩ => ?_
  exact ⟨env, c, e, re, rr, h.bind fun d v c1 s1 r1 q1 h1 => truth_ok r1 q1 h1⟩
/-- a comparison as a test -/
def asB (d : D) (s : S) : R Bool := match d with
  | .p (.bool b) => .ok b s
  | _ => .bad
def mTest (ma : ME) : MT := fun env s => (ma env s).bind asB
theorem asB_ok {Y : Md} {WE : Value → Option Addr → Hp → Prop} {c : Cf} {d : D} {v : V} {Q : Bool → Hp → Prop} (r : Rel Y c) (q : RD Y c.m c.o c.H d v) (h : Post Y rb WE c (asB d c.s) Q) : ∃ k, v = .bl k ∧ Q k c.H := by
  unfold asB at h
  split at h
  · rename_i b
    exact ⟨b, by simpa [RD, RP] using q, h.here r rfl⟩
  · exact h.elim
theorem R.bind_assoc {α β γ : Type} (r : R α) (f : α → S → R β) (g : β → S → R γ) : (r.bind f).bind g = r.bind fun a s => (f a s).bind g := by
  cases r <;> rfl
theorem t_cmp {op : CmpOp} {f : D → D → S → R D} (ho : Op2 X (compareOp op) f) (ha : PE X a (LE X W ma)) (hb : PE X b (LE X W mb)) (hm : behindInMarks op b = false) : PT X (.Compare a [op] [b] pos) (LT X W (mTest (mBin f ma mb))) := by
  obtain ⟨r, hr, hl⟩ := ho
  refine (pt_cmpR hr ha hb hm).imp fun σ H Q h => ?_
  obtain ⟨env, c, e, re, rr, h⟩ := h
  exact tOp_of hl ⟨env, c, e, re, rr, h.bind fun d v c1 s1 r1 q1 h1 => asB_ok r1 q1 h1⟩

/-! ### and, or, not; a if t else b -/
variable {ta tb : MT} {rest : List Expr}
def mAnd (ta tb : MT) : MT := fun env s => (ta env s).bind fun b s1 => if b then tb env s1 else .ok false s1
def mOr (ta tb : MT) : MT := fun env s => (ta env s).bind fun b s1 => if b then .ok true s1 else tb env s1
def mNot (ta : MT) : MT := fun env s => (ta env s).bind fun b s1 => .ok (!b) s1
theorem w_and1 (ha : PT X a (LT X W ta)) : PW X (.BoolOp .And [a] pos) (LT X W ta) := pw_and1 ha
theorem w_or1 (ha : PT X a (LT X W ta)) : PW X (.BoolOp .Or [a] pos) (LT X W ta) := pw_or1 ha
theorem w_and (ha : PT X a (LT X W ta)) (hb : PW X (.BoolOp .And (b :: rest) pos) (LT X W tb)) : PW X (.BoolOp .And (a :: b :: rest) pos) (LT X W (mAnd ta tb)) := by
  refine (pw_and ha hb).imp fun σ H Q ⟨env, c, e, re, rr, h⟩ => ⟨env, c, e, re, rr, h.bind fun d v c1 s1 r1 q1 h1 => ?_⟩
  cases q1
  cases d with
  | true => exact iteT ⟨env, c1, rfl, re.step rr s1, r1, h1⟩
  | false => exact iteF (h1.here r1 rfl)
theorem w_or (ha : PT X a (LT X W ta)) (hb : PW X (.BoolOp .Or (b :: rest) pos) (LT X W tb)) : PW X (.BoolOp .Or (a :: b :: rest) pos) (LT X W (mOr ta tb)) := by
  refine (pw_or ha hb).imp fun σ H Q ⟨env, c, e, re, rr, h⟩ => ⟨env, c, e, re, rr, h.bind fun d v c1 s1 r1 q1 h1 => ?_⟩
  cases q1
  cases d with
  | true => exact iteT (h1.here r1 rfl)
  | false => exact iteF ⟨env, c1, rfl, re.step rr s1, r1, h1⟩
theorem t_w {e : Expr} (h : PW X e (LT X W ta)) : PT X e (LT X W ta) := h.pt
theorem t_not (ha : PT X a (LT X W ta)) : PT X (.UnaryOp .Not a pos) (LT X W (mNot ta)) := by
  refine (pt_not ha).imp fun σ H Q ⟨env, c, e, re, rr, h⟩ => ⟨env, c, e, re, rr, h.bind fun d v c1 s1 r1 q1 h1 => ?_⟩
  cases q1
  exact h1.here r1 rfl
/-- as values, by truth -/
def mAndV (ma mb : ME) : ME := fun env s => (ma env s).bind fun d s1 => (truth d s1).bind fun b s2 => if b then mb env s2 else .ok d s2
def mOrV (ma mb : ME) : ME := fun env s => (ma env s).bind fun d s1 => (truth d s1).bind fun b s2 => if b then .ok d s2 else mb env s2
def mNotV (ma : ME) : ME := fun env s => (ma env s).bind fun d s1 => (truth d s1).bind fun b s2 => .ok (.p (.bool (!b))) s2
theorem e_one {op : BoolOp} (ha : PE X a (LE X W ma)) : PE X (.BoolOp op [a] pos) (LE X W ma) := pe_one ha
theorem truth_st {d : D} {s s' : S} {b : Bool} (h : truth d s = .ok b s') : s' = s := by
  unfold truth at h
  split at h
  · split at h
    · cases h; rfl
    · cases h
  · split at h
    · cases h; rfl
    · cases h
  · cases h
theorem truth_noex {d : D} {s s' : S} {x : Str} {fs : List (Str × D)} : truth d s ≠ .ex x fs s' := by
  unfold truth
  intro h
  split at h
  · split at h <;> cases h
  · split at h <;> cases h
  · cases h
/-- truth, then what follows -/
theorem truth_then {γ δ : Type} {Y : Md} {RC : Cf → γ → δ → Prop} {WE : Value → Option Addr → Hp → Prop} {c : Cf} {d : D} {v : V} {f : Bool → S → R γ} {Q : δ → Hp → Prop} (r : Rel Y c) (q : RD Y c.m c.o c.H d v)
    (h : Post Y RC WE c ((truth d c.s).bind f) Q) : ∃ k, TruV Y.K v c.H k ∧ Post Y RC WE c (f k c.s) Q := by
  cases e : truth d c.s with
  | ok b s' =>
    have es := truth_st e
    subst es
    obtain ⟨k, h1, h2⟩ := truth_ok (Q := fun k _ => k = b) (WE := WE) r q (by rw [e]; intro k c' _ _ _ z; exact z.symm)
    subst h2
    rw [e] at h
    exact ⟨k, h1, h⟩
  | ex x fs s' => exact absurd e truth_noex
  | bad => rw [e] at h; exact h.elim
theorem e_and (ha : PE X a (LE X W ma)) (hb : PE X (.BoolOp .And (b :: rest) pos) (LE X W mb)) : PE X (.BoolOp .And (a :: b :: rest) pos) (LE X W (mAndV ma mb)) := by
  refine (pe_andT ha hb).imp fun σ H Q ⟨env, c, e, re, rr, h⟩ => ⟨env, c, e, re, rr, h.bind fun d v c1 s1 r1 q1 h1 => ?_⟩
  obtain ⟨k, h2, h3⟩ := truth_then r1 q1 h1
  refine ⟨k, h2, ?_⟩
  cases k with
  | true => exact iteT ⟨env, c1, rfl, re.step rr s1, r1, h3⟩
  | false => exact iteF (h3.here r1 q1)
theorem e_or (ha : PE X a (LE X W ma)) (hb : PE X (.BoolOp .Or (b :: rest) pos) (LE X W mb)) : PE X (.BoolOp .Or (a :: b :: rest) pos) (LE X W (mOrV ma mb)) := by
  refine (pe_orT ha hb).imp fun σ H Q ⟨env, c, e, re, rr, h⟩ => ⟨env, c, e, re, rr, h.bind fun d v c1 s1 r1 q1 h1 => ?_⟩
  obtain ⟨k, h2, h3⟩ := truth_then r1 q1 h1
  refine ⟨k, h2, ?_⟩
  cases k with
  | true => exact iteT (h3.here r1 q1)
  | false => exact iteF ⟨env, c1, rfl, re.step rr s1, r1, h3⟩
theorem e_not (ha : PE X a (LE X W ma)) : PE X (.UnaryOp .Not a pos) (LE X W (mNotV ma)) := by
  refine (pe_notT ha).imp fun σ H Q ⟨env, c, e, re, rr, h⟩ => ⟨env, c, e, re, rr, h.bind fun d v c1 s1 r1 q1 h1 => ?_⟩
  obtain ⟨k, h2, h3⟩ := truth_then r1 q1 h1
  exact ⟨k, h2, h3.here r1 (by simp [RD, RP])⟩
def mIf (t : MT) (ma mb : ME) : ME := fun env s => (t env s).bind fun b s1 => if b then ma env s1 else mb env s1
theorem e_if {t : Expr} {mt : MT} (ht : PT X t (LT X W mt)) (ha : PE X a (LE X W ma)) (hb : PE X b (LE X W mb)) : PE X (.IfExp t a b pos) (LE X W (mIf mt ma mb)) := by
  refine (pe_ifExp ht ha hb).imp fun σ H Q ⟨env, c, e, re, rr, h⟩ => ⟨env, c, e, re, rr, h.bind fun d v c1 s1 r1 q1 h1 => ?_⟩
  cases q1
  cases d with
  | true => exact iteT ⟨env, c1, rfl, re.step rr s1, r1, h1⟩
  | false => exact iteF ⟨env, c1, rfl, re.step rr s1, r1, h1⟩

/-! ### arguments, tuples, lists -/
variable {es : List Expr} {ms : MA}
def mNil : MA := fun _ s => .ok [] s
def mCons (ma : ME) (ms : MA) : MA := fun env s => (ma env s).bind fun d s1 => (ms env s1).bind fun ds s2 => .ok (d :: ds) s2
theorem a_nil : PA X [] (LA X W mNil) := pa_nil.imp fun σ H Q ⟨env, c, e, re, rr, h⟩ => by subst e; exact Post.here (Y := yx X) (RA := rds (yx X)) (a := []) (b := []) h rr .nil
theorem a_cons (ha : PE X a (LE X W ma)) (hs : PA X es (LA X W ms)) (hst : starEach (a :: es) X.env = (false, eval a X.env) :: starEach es X.env := by rfl) : PA X (a :: es) (LA X W (mCons ma ms)) := by
  refine (pa_cons ha hs hst).imp fun σ H Q ⟨env, c, e, re, rr, h⟩ => ⟨env, c, e, re, rr, h.bind fun d v c1 s1 r1 q1 h1 => ⟨env, c1, rfl, re.step rr s1, r1, h1.bind fun ds vs c2 s2 r2 q2 h2 => ?_⟩⟩
  exact h2.here r2 (.cons (q1.step r1 s2) q2)
/-- all of them pure data -/
def allP : List D → Option (List PyData)
  | [] => some []
  | .p x :: ds => (allP ds).map (x :: ·)
  | _ :: _ => none
theorem allP_ok {Y : Md} {m o : List Addr} {H : Hp} : ∀ {ds : List D} {vs : List V} {ps : List PyData}, RDs Y m o H ds vs → allP ds = some ps → RPs Y.K H ps vs
  | [], _, ps, .nil, e => by simp [allP] at e; subst e; simp [RPs]
  | .p x :: ds, _, ps, .cons q r, e => by
    simp only [allP, Option.map_eq_some_iff] at e
    obtain ⟨ps', e1, rfl⟩ := e
    simp only [RPs]
    exact ⟨_, _, rfl, q, allP_ok r e1⟩
  | .ref _ :: _, _, _, .cons _ _, e => by simp [allP] at e
  | .well _ :: _, _, _, .cons _ _, e => by simp [allP] at e
  | .fn _ :: _, _, _, .cons _ _, e => by simp [allP] at e
theorem allP_length : ∀ {ds : List D} {ps : List PyData}, allP ds = some ps → ps.length = ds.length
  | [], ps, e => by simp [allP] at e; subst e; rfl
  | .p x :: ds, ps, e => by
    simp only [allP, Option.map_eq_some_iff] at e
    obtain ⟨ps', e1, rfl⟩ := e
    simp [allP_length e1]
  | .ref _ :: _, _, e => by simp [allP] at e
  | .well _ :: _, _, e => by simp [allP] at e
  | .fn _ :: _, _, e => by simp [allP] at e
/-- a new tuple comes -/
theorem Post.tup {Y : Md} {WE : Value → Option Addr → Hp → Prop} {c : Cf} {ps : List PyData} {vs : List V} {Q : VK} {t : Addr} (h : Post Y (rd Y) WE c (.ok (.p (.tuple ps)) c.s) Q) (r : Rel Y c) (q : RPs Y.K c.H ps vs) (n : c.H t = none) : Q (.ref t) (upd c.H t (.tup vs)) := by
  refine h (.ref t) (c.at t (.tup vs)) rfl (Stp.at n) (r.at n) ?_
  show RP Y.K (upd c.H t (.tup vs)) (.tuple ps) (.ref t)
  simp only [RP]
  exact ⟨t, vs, rfl, SqT.of upd_same, RPs.stay (stay_of (upd_stay n)) q⟩
/-- a new frozen list comes: the object o stands there for good -/
def mTup (ms : MA) : ME := fun env s => (ms env s).bind fun ds s1 => match allP ds with
  | some ps => if sizeOk ps.length then .ok (.p (.tuple ps)) s1 else .bad
  | none => .bad
theorem e_tup {k : Nat} (hs : PA X es (LA X W ms)) : PE X (.Tuple es k pos) (LE X W (mTup ms)) := by
  refine (pe_tup hs).imp fun σ H Q ⟨env, c, e, re, rr, h⟩ => ⟨env, c, e, re, rr, h.bind fun ds vs c1 s1 r1 q1 h1 => ?_⟩
  cases e2 : allP ds with
  | none => simp only [e2] at h1; exact h1.elim
  | some ps =>
    simp only [e2] at h1
    split at h1
    · rename_i hz
      have q2 := allP_ok q1 e2
      exact ⟨by rw [← q2.length]; exact of_decide_eq_true hz, fun p np => h1.tup r1 q2 np⟩
    · exact h1.elim
/-- a new list of the mirror's own -/
def newLst (ds : List D) (s : S) : R D := if sizeOk ds.length then .ok (.ref s.g.length) { s with g := s.g ++ [some (.lst ds)] } else .bad
theorem newLst_size {Y : Md} {WE : Value → Option Addr → Hp → Prop} {c : Cf} {ds : List D} {vs : List V} {Q : VK} (h : Post Y (rd Y) WE c (newLst ds c.s) Q) (q : RDs Y c.m c.o c.H ds vs) : vs.length ≤ sizeLine := by
  unfold newLst at h
  split at h
  · rename_i hz
    rw [← Paired.length q]; exact of_decide_eq_true hz
  · exact h.elim
theorem newLst_put {Y : Md} {WE : Value → Option Addr → Hp → Prop} {c : Cf} {ds : List D} {vs : List V} {Q : VK} {t : Addr} (h : Post Y (rd Y) WE c (newLst ds c.s) Q) (r : Rel Y c) (q : RDs Y c.m c.o c.H ds vs) (n : c.H t = none) :
    Q (.ref t) (upd c.H t (.lst vs)) := by
  unfold newLst at h
  split at h
  · refine h (.ref t) (c.new t (.lst vs) (.lst ds)) rfl (Stp.new r n) (r.new n ?_) ⟨t, ?_, rfl⟩
    · exact ⟨vs, upd_same, RDs.up (fun i a e => get_app e) (fun _ _ e => e) (stay_of (upd_stay n)) q⟩
    · show (c.m ++ [t])[c.s.g.length]? = some t
      rw [← r.gl]; simp
  · exact h.elim
def mLst (ms : MA) : ME := fun env s => (ms env s).bind newLst
theorem e_lst (hs : PA X es (LA X W ms)) : PE X (.List es pos) (LE X W (mLst ms)) :=
  (pe_lst hs).imp fun σ H Q ⟨env, c, e, re, rr, h⟩ => ⟨env, c, e, re, rr, h.bind fun ds vs c1 s1 r1 q1 h1 => ⟨newLst_size h1 q1, fun p np => newLst_put h1 r1 q1 np⟩⟩
end
end Mp

/-! MP, part C: statements, loops, defs, calls. -/
namespace Mp
open PySem PySem.Spec PyProof.Rows L2

def PostS (Y : Md) (W : WX) (D : Ends) (c : Cf) : RS → Prop
  | .nx env s' => ∀ (σ' : L2.St) c', c'.s = s' → Stp c c' → Rel Y c' → RE Y c' env σ' → D.nx σ' c'.H
  | .ret d s' => ∀ v c', c'.s = s' → Stp c c' → Rel Y c' → rd Y c' d v → D.rt v c'.H
  | .brk env s' => ∀ (σ' : L2.St) c', c'.s = s' → Stp c c' → Rel Y c' → RE Y c' env σ' → D.bk σ' c'.H
  | .cont env s' => ∀ (σ' : L2.St) c', c'.s = s' → Stp c c' → Rel Y c' → RE Y c' env σ' → D.ct σ' c'.H
  | .ex x fs env s' => ∀ cv dx (σ' : L2.St) c', c'.s = s' → Stp c c' → Rel Y c' → XR Y c' x fs cv dx → RE Y c' env σ' → W cv dx σ' c'.H
  | .bad => False
def LS (X : Cx) (W : WX) (m : MS) : TS := fun D σ H => ∃ env c, c.H = H ∧ RE (yx X) c env σ ∧ Rel (yx X) c ∧ PostS (yx X) W D c (m env c.s)
theorem PostS.step {Y : Md} {W : WX} {D : Ends} {c c' : Cf} {r : RS} (h : PostS Y W D c r) (st : Stp c c') : PostS Y W D c' r := by
  cases r with
  | nx env s' => exact fun σ' c2 e s2 => h σ' c2 e (st.trans s2)
  | ret d s' => exact fun v c2 e s2 => h v c2 e (st.trans s2)
  | brk env s' => exact fun σ' c2 e s2 => h σ' c2 e (st.trans s2)
  | cont env s' => exact fun σ' c2 e s2 => h σ' c2 e (st.trans s2)
  | ex x fs env s' => exact fun cv dx σ' c2 e s2 => h cv dx σ' c2 e (st.trans s2)
  | bad => exact h

/-- an expression's end, then a statement's -/
def R.thn {α : Type} : R α → Env1 → (α → S → RS) → RS
  | .ok a s, _, f => f a s
  | .ex x fs s, env, _ => .ex x fs env s
  | .bad, _, _ => .bad
@[simp] theorem R.thn_ok {α : Type} {a : α} {s : S} {env : Env1} {f : α → S → RS} : (R.ok a s).thn env f = f a s := rfl
@[simp] theorem R.thn_ex {α : Type} {x : Str} {fs : List (Str × D)} {s : S} {env : Env1} {f : α → S → RS} : (R.ex x fs s : R α).thn env f = .ex x fs env s := rfl
@[simp] theorem R.thn_bad {α : Type} {env : Env1} {f : α → S → RS} : (R.bad : R α).thn env f = .bad := rfl
theorem PostS.bind {α β : Type} {Y : Md} {RA : Cf → α → β → Prop} {W : WX} {D : Ends} {c : Cf} {ra : R α} {env : Env1} {σ : L2.St} {f : α → S → RS} {Q1 : β → Hp → Prop} (h : PostS Y W D c (ra.thn env f)) (re : RE Y c env σ) (r : Rel Y c)
    (k : ∀ a b c1, Stp c c1 → Rel Y c1 → RA c1 a b → PostS Y W D c1 (f a c1.s) → Q1 b c1.H) : Post Y RA (fun cv dx H' => W cv dx σ H') c ra Q1 := by
  cases ra with
  | ok a s' => exact fun b c2 e s2 r2 ra => k a b c2 s2 r2 ra (by rw [e]; exact PostS.step h s2)
  | ex x fs s' => exact fun cv dx c2 e s2 r2 xr => h cv dx σ c2 e s2 r2 xr (re.step r s2)
  | bad => exact h

section
variable {X : Cx} {W : WX} {pos : Pos} {a b : Expr} {ma mb : ME} {st : Stmt} {rest : List Stmt} {m1 m2 : MS}

/-! ### blocks -/
def sNext : MS := fun env s => .nx env s
def RS.seq : RS → MS → RS
  | .nx env s, m => m env s
  | .ret d s, _ => .ret d s
  | .brk env s, _ => .brk env s
  | .cont env s, _ => .cont env s
  | .ex x fs env s, _ => .ex x fs env s
  | .bad, _ => .bad
def sSeq (m1 m2 : MS) : MS := fun env s => (m1 env s).seq m2
@[simp] theorem seq_nx {env : Env1} {s : S} {m : MS} : (RS.nx env s).seq m = m env s := rfl
@[simp] theorem seq_ret {d : D} {s : S} {m : MS} : (RS.ret d s).seq m = .ret d s := rfl
@[simp] theorem seq_brk {env : Env1} {s : S} {m : MS} : (RS.brk env s).seq m = .brk env s := rfl
@[simp] theorem seq_cont {env : Env1} {s : S} {m : MS} : (RS.cont env s).seq m = .cont env s := rfl
@[simp] theorem seq_ex {x : Str} {fs : List (Str × D)} {env : Env1} {s : S} {m : MS} : (RS.ex x fs env s).seq m = .ex x fs env s := rfl
@[simp] theorem seq_bad {m : MS} : RS.bad.seq m = .bad := rfl
theorem PostS.seq {Y : Md} {D : Ends} {c : Cf} {r : RS} {m : MS} {N : L2.St → Hp → Prop} (h : PostS Y W D c (r.seq m))
    (k : ∀ env (σ : L2.St) c1, Stp c c1 → Rel Y c1 → RE Y c1 env σ → PostS Y W D c1 (m env c1.s) → N σ c1.H) : PostS Y W { D with nx := N } c r := by
  cases r with
  | nx env s' => exact fun σ' c2 e s2 r2 re => k env σ' c2 s2 r2 re (by rw [e]; exact PostS.step h s2)
  | ret d s' => exact h
  | brk env s' => exact h
  | cont env s' => exact h
  | ex x fs env s' => exact h
  | bad => exact h
theorem ss_nil : PSs X [] (LS X W sNext) := pss_nil.imp fun D σ H ⟨env, c, e, re, r, h⟩ => by subst e; exact h σ c rfl Stp.refl r re
theorem ss_cons (h1 : PS X st (LS X W m1)) (h2 : PSs X rest (LS X W m2)) : PSs X (st :: rest) (LS X W (sSeq m1 m2)) :=
  (pss_cons h1 h2).imp fun D σ H ⟨env, c, e, re, r, h⟩ => ⟨env, c, e, re, r, PostS.seq h fun env1 σ1 c1 s1 r1 re1 h1 => ⟨env1, c1, rfl, re1, r1, h1⟩⟩
theorem ss_one (h1 : PS X st (LS X W m1)) : PSs X [st] (LS X W m1) := pss_one h1

/-! ### simple statements -/
def sBrk : MS := fun env s => .brk env s
def sCont : MS := fun env s => .cont env s
theorem s_pass : PS X (.Pass pos) (LS X W sNext) := ps_pass.imp fun D σ H ⟨env, c, e, re, r, h⟩ => by subst e; exact h σ c rfl Stp.refl r re
theorem s_brk : PS X (.Break pos) (LS X W sBrk) := ps_break.imp fun D σ H ⟨env, c, e, re, r, h⟩ => by subst e; exact h σ c rfl Stp.refl r re
theorem s_cont : PS X (.Continue pos) (LS X W sCont) := ps_continue.imp fun D σ H ⟨env, c, e, re, r, h⟩ => by subst e; exact h σ c rfl Stp.refl r re
def sExpr (ma : ME) : MS := fun env s => (ma env s).thn env fun _ s1 => .nx env s1
theorem s_expr (ha : PE X a (LE X W ma)) (hs : swapsWith a none pos.line X.env = pure false := by rfl) : PS X (.Expr a pos) (LS X W (sExpr ma)) :=
  (ps_expr ha hs).imp fun D σ H ⟨env, c, e, re, r, h⟩ => ⟨env, c, e, re, r, h.bind (RA := rd (yx X)) re r fun d v c1 s1 r1 q1 h1 => h1 σ c1 rfl Stp.refl r1 (re.step r s1)⟩
theorem s_doc {x : Str} {j : Nat} {pos' : Pos} : PS X (.Expr (.Constant (.str x) j pos) pos') (LS X W sNext) := ps_doc.imp fun D σ H ⟨env, c, e, re, r, h⟩ => by subst e; exact h σ c rfl Stp.refl r re
def sRet (ma : ME) : MS := fun env s => (ma env s).thn env fun d s1 => .ret d s1
theorem s_ret (ha : PE X a (LE X W ma)) : PS X (.Return (some a) pos) (LS X W (sRet ma)) :=
  (ps_ret ha).imp fun D σ H ⟨env, c, e, re, r, h⟩ => ⟨env, c, e, re, r, h.bind (RA := rd (yx X)) re r fun d v c1 s1 r1 q1 h1 => h1 v c1 rfl Stp.refl r1 q1⟩
def sRetN : MS := fun _ s => .ret (.p .none) s
theorem s_retN : PS X (.Return none pos) (LS X W sRetN) := ps_retN.imp fun D σ H ⟨env, c, e, re, r, h⟩ => by subst e; exact h .non c rfl Stp.refl r (by simp [RD, RP])
def sIf (t : MT) (m1 m2 : MS) : MS := fun env s => (t env s).thn env fun b s1 => if b then m1 env s1 else m2 env s1
theorem s_if {t : Expr} {mt : MT} {s1 s2 : List Stmt} (ht : PT X t (LT X W mt)) (h1 : PSs X s1 (LS X W m1)) (h2 : PSs X s2 (LS X W m2)) : PS X (.If t s1 s2 pos) (LS X W (sIf mt m1 m2)) :=
  (ps_if ht h1 h2).imp fun D σ H ⟨env, c, e, re, r, h⟩ => ⟨env, c, e, re, r, h.bind (RA := rb) re r fun d v c1 s1 r1 q1 h1 => by
    cases q1
    cases d with
    | true => exact iteT ⟨env, c1, rfl, re.step r s1, r1, h1⟩
    | false => exact iteF ⟨env, c1, rfl, re.step r s1, r1, h1⟩⟩

/-! ### targets -/
abbrev MG := D → Env1 → S → R Env1
def LG (X : Cx) (W : WX) (g : MG) : TG := fun v σ H Q => ∃ d env c, c.H = H ∧ RE (yx X) c env σ ∧ Rel (yx X) c ∧ rd (yx X) c d v ∧ Post (yx X) (RE (yx X)) (fun cv dx H' => W cv dx σ H') c (g d env c.s) Q
def LGs (X : Cx) (W : WX) (g : List D → Env1 → S → R Env1) : TGs := fun vs σ H Q => ∃ ds env c, c.H = H ∧ RE (yx X) c env σ ∧ Rel (yx X) c ∧ rds (yx X) c ds vs ∧ Post (yx X) (RE (yx X)) (fun cv dx H' => W cv dx σ H') c (g ds env c.s) Q
theorem _root_.L2.PG.imp {X : Cx} {e : Expr} {t t' : TG} (h : PG X e t) (i : ∀ v σ H Q, t' v σ H Q → t v σ H Q) : PG X e t' := ⟨fun pins s σ H v u Q I r q => h.run pins s σ H v u Q I r (i v σ H Q q)⟩
theorem _root_.L2.PGs.imp {X : Cx} {e : List Expr} {t t' : TGs} (h : PGs X e t) (i : ∀ v σ H Q, t' v σ H Q → t v σ H Q) : PGs X e t' := ⟨fun pins s σ H v u Q I r q => h.run pins s σ H v u Q I r (i v σ H Q q)⟩
def gSet (i : Nat) : MG := fun d env s => .ok (env.set i (some d)) s
theorem g_name {i : Nat} {x : Str} (hN : X.N.Nodup) (hi : X.N[i]? = some x := by rfl) (hx : Loc X.env.scope x := by first | exact Or.inl rfl | exact Or.inr rfl) (hf : X.fn x = true ∨ X.env.scope.names.lookup x = some .local := by first | exact .inl rfl | exact .inr rfl) : PG X (.Name x pos) (LG X W (gSet i)) :=
  (pg_name hN hi hx hf).imp fun v σ H Q ⟨d, env, c, e, re, r, q, h⟩ => by subst e; exact h.here r (re.set i q)
def gNone : List D → Env1 → S → R Env1 := fun ds env s => match ds with
  | [] => .ok env s
  | _ => .bad
def gMore (g : MG) (gs : List D → Env1 → S → R Env1) : List D → Env1 → S → R Env1 := fun ds env s => match ds with
  | d :: ds => (g d env s).bind fun env1 s1 => gs ds env1 s1
  | [] => .bad
theorem gs_nil : PGs X [] (LGs X W gNone) := pgs_nil.imp fun v σ H Q ⟨d, env, c, e, re, r, q, h⟩ => by
  subst e
  cases q with
  | nil => exact ⟨rfl, h.here r re⟩
  | cons _ _ => exact h.elim
/-- the names' wish is only for ways that raise nothing at a target -/
def QuietG (gs : List D → Env1 → S → R Env1) : Prop := ∀ ds env s x fs s', gs ds env s ≠ .ex x fs s'
def Quiet1 (g : MG) : Prop := ∀ d env s x fs s', g d env s ≠ .ex x fs s'
theorem Quiet1.set {i : Nat} : Quiet1 (gSet i) := fun d env s x fs s' h => by cases h
theorem QuietG.none : QuietG gNone := fun ds env s x fs s' h => by unfold gNone at h; split at h <;> cases h
theorem QuietG.more {g : MG} {gs : List D → Env1 → S → R Env1} (h1 : Quiet1 g) (h2 : QuietG gs) : QuietG (gMore g gs) := fun ds env s x fs s' h => by
  unfold gMore at h
  split at h
  · rename_i d ds'
    cases e : g d env s with
    | ok env1 s1 => rw [e] at h; exact h2 _ _ _ _ _ _ h
    | ex x' fs' s1 => exact h1 _ _ _ _ _ _ e
    | bad => rw [e] at h; cases h
  · cases h
theorem gs_cons {es : List Expr} {g : MG} {gs : List D → Env1 → S → R Env1} (h1 : PG X a (LG X W g)) (h2 : PGs X es (LGs X W gs)) (q2 : QuietG gs)
    (hs : (assignEach (a :: es) X.env).map (·.2) = assign a X.env :: (assignEach es X.env).map (·.2) := by rfl) : PGs X (a :: es) (LGs X W (gMore g gs)) :=
  (pgs_cons h1 h2 hs).imp fun v σ H Q ⟨ds, env, c, e, re, r, q, h⟩ => by
    cases q with
    | nil => exact h.elim
    | cons q qr =>
      refine ⟨_, _, rfl, _, env, c, e, re, r, q, h.bind fun env1 σ1 c1 s1 r1 re1 h1 => ⟨_, env1, c1, rfl, re1, r1, RDs.step r s1 qr, ?_⟩⟩
      generalize hg : gs _ env1 c1.s = z at h1 ⊢
      cases z with
      | ok env2 s2 => exact h1
      | ex x fs s2 => exact absurd hg (q2 _ _ _ _ _ _)
      | bad => exact h1
def gTup (n : Nat) (gs : List D → Env1 → S → R Env1) : MG := fun d env s => match d with
  | .p (.tuple ps) => if ps.length = n then gs (ps.map .p) env s else .bad
  | _ => .bad
theorem RPs.rds {Y : Md} {m o : List Addr} {H : Hp} : ∀ {ps : List PyData} {vs : List V}, RPs Y.K H ps vs → RDs Y m o H (ps.map .p) vs
  | [], _, h => by simp only [RPs] at h; subst h; exact .nil
  | p :: ps, _, h => by simp only [RPs] at h; obtain ⟨v, r, rfl, h1, h2⟩ := h; exact .cons h1 (RPs.rds h2)
theorem g_tup {es : List Expr} {k n : Nat} {gs : List D → Env1 → S → R Env1} (hc : X.calm = true) (h : PGs X es (LGs X W gs)) (hn : (assignEach es X.env).length = n := by rfl) (hst : (assignEach es X.env).findIdx? (·.1) = none := by rfl) : PG X (.Tuple es k pos) (LG X W (gTup n gs)) :=
  (pg_tup hc h hn hst).imp fun v σ H Q ⟨d, env, c, e, re, r, q, h⟩ => by
    unfold gTup at h
    split at h
    · rename_i ps
      split at h
      · rename_i hl
        have q' : RP X.K c.H (.tuple ps) v := q
        simp only [RP] at q'
        obtain ⟨t, vs, rfl, h1, h2⟩ := q'
        subst e
        exact ⟨t, vs, rfl, h1, by rw [← h2.length]; exact hl, _, env, c, rfl, re, r, h2.rds, h⟩
      · exact h.elim
    · exact h.elim
def sAsg (ma : ME) (g : MG) : MS := fun env s => (ma env s).thn env fun d s1 => (g d env s1).thn env fun env1 s2 => .nx env1 s2
theorem s_asg {tg : Expr} {g : MG} (ha : PE X a (LE X W ma)) (hg : PG X tg (LG X W g)) (hs : swapsWithSole [tg] a pos.line X.env = pure false := by rfl) (hw : swappedStores [tg] a X.env = pure none := by rfl)
    (h1 : (assignEach [tg] X.env).map (·.2) = [assign tg X.env] := by rfl) : PS X (.Assign [tg] a pos) (LS X W (sAsg ma g)) :=
  (ps_asg ha hg hs hw h1).imp fun D σ H ⟨env, c, e, re, r, h⟩ => ⟨env, c, e, re, r, h.bind (RA := rd (yx X)) re r fun d v c1 s1 r1 q1 h1 =>
    ⟨d, env, c1, rfl, re.step r s1, r1, q1, h1.bind (RA := RE (yx X)) (re.step r s1) r1 fun env1 σ1 c2 s2 r2 re2 h2 => h2 σ1 c2 rfl Stp.refl r2 re2⟩⟩
/-- x = e -/
def sSet (i : Nat) (ma : ME) : MS := fun env s => (ma env s).thn env fun d s1 => .nx (env.set i (some d)) s1
theorem s_set {i : Nat} {x : Str} {pos' : Pos} (hN : X.N.Nodup) (ha : PE X a (LE X W ma)) (hi : X.N[i]? = some x := by rfl) (hx : Loc X.env.scope x := by first | exact Or.inl rfl | exact Or.inr rfl) (hs : swapsWith a (some (.Name x pos')) pos.line X.env = pure false := by rfl)
    (hf : X.fn x = true ∨ X.env.scope.names.lookup x = some .local := by first | exact .inl rfl | exact .inr rfl) : PS X (.Assign [.Name x pos'] a pos) (LS X W (sSet i ma)) :=
  (ps_set hN hi hx ha hs hf).imp fun D σ H ⟨env, c, e, re, r, h⟩ => ⟨env, c, e, re, r, h.bind (RA := rd (yx X)) re r fun d v c1 s1 r1 q1 h1 => h1 _ c1 rfl Stp.refl r1 ((re.step r s1).set i q1)⟩

/-! ### for -/
/-- what is walked: items that stand for good, or an own list as it stands -/
inductive Src where
  | fix (xs : List D) | own (i : Nat) (xs : List D)
def Src.items : Src → List D
  | .fix xs => xs
  | .own _ xs => xs
def Src.ok : Src → S → Prop
  | .fix _, _ => True
  | .own i xs, s => s.g[i]? = some (some (.lst xs))
open Classical in
/-- the loop's turns over the items that are left -/
noncomputable def forL0 (ok : S → Prop) (g : MG) (body : MS) : List D → Env1 → S → RS
  | [], env, s => if ok s then .nx env s else .bad
  | x :: xs, env, s => if ok s then (g x env s).thn env fun env1 s1 => match body env1 s1 with
    | .nx e s2 => forL0 ok g body xs e s2
    | .cont e s2 => forL0 ok g body xs e s2
    | .brk e s2 => .nx e s2
    | .ret d s2 => .ret d s2
    | .ex c fs e s2 => .ex c fs e s2
    | .bad => .bad
    else .bad
theorem forL_ex : ∃ f : (S → Prop) → MG → MS → List D → Env1 → S → RS, f = forL0 := ⟨_, rfl⟩
/-- the same, closed to the kernel's reductions -/
noncomputable def forL : (S → Prop) → MG → MS → List D → Env1 → S → RS := Classical.choose forL_ex
theorem forL_seal : forL = forL0 := Classical.choose_spec forL_ex
open Classical in
theorem forL_e0 {ok : S → Prop} {g : MG} {body : MS} {env : Env1} {s : S} : forL ok g body [] env s = if ok s then .nx env s else .bad := by rw [forL_seal]; rfl
open Classical in
theorem forL_e1 {ok : S → Prop} {g : MG} {body : MS} {x : D} {xs : List D} {env : Env1} {s : S} : forL ok g body (x :: xs) env s = if ok s then (g x env s).thn env fun env1 s1 => match body env1 s1 with
    | .nx e s2 => forL ok g body xs e s2
    | .cont e s2 => forL ok g body xs e s2
    | .brk e s2 => .nx e s2
    | .ret d s2 => .ret d s2
    | .ex c fs e s2 => .ex c fs e s2
    | .bad => .bad
    else .bad := by rw [forL_seal]; rfl
abbrev MI := Env1 → S → R Src
noncomputable def sFor (it : MI) (g : MG) (body : MS) : MS := fun env s => (it env s).thn env fun src s1 => forL src.ok g body src.items env s1
/-- an iterator walks the items -/
structure RSrc (Y : Md) (c0 : Cf) (src : Src) (J : It) : Prop where
  stop : ∀ c, Stp c0 c → Rel Y c → src.ok c.s → J.stop src.items.length c.H
  go : ∀ c i, Stp c0 c → Rel Y c → src.ok c.s → i < src.items.length → J.go i c.H
  yld : ∀ c (i : Nat) x v H', Stp c0 c → Rel Y c → src.ok c.s → src.items[i]? = some x → J.yld i c.H v H' → ∃ c', c'.H = H' ∧ c'.s = c.s ∧ Stp c c' ∧ Rel Y c' ∧ rd Y c' x v
def LI (X : Cx) (W : WX) (mi : MI) : TI := fun σ H R => ∃ env c, c.H = H ∧ RE (yx X) c env σ ∧ Rel (yx X) c ∧ Post (yx X) (RSrc (yx X)) (fun cv dx H' => W cv dx σ H') c (mi env c.s) R
theorem _root_.L2.PI.imp {X : Cx} {tg e : Expr} {t t' : TI} (h : PI X tg e t) (i : ∀ σ H Q, t' σ H Q → t σ H Q) : PI X tg e t' := ⟨fun pins s σ H R I q => h.run pins s σ H R I (i σ H R q)⟩
theorem for_turns {Y : Md} (hY : Y = yx X) {src : Src} {J : It} {g : MG} {body : MS} {c0 : Cf} (rs : RSrc Y c0 src J) {D : Ends} {σ : L2.St} {env : Env1} (re : RE Y c0 env σ) (r : Rel Y c0) (h : PostS Y W D c0 (forL src.ok g body src.items env c0.s)) :
    ∃ Wm : Nat → Nat → L2.St → Hp → Prop, (∃ m, Wm 0 m σ c0.H) ∧ ∀ i m σ H, Wm i m σ H →
      (J.stop i H ∧ D.nx σ H) ∨ (J.go i H ∧ ∃ N : L2.St → Hp → Prop, (∀ σ' H', N σ' H' → ∃ m', m' < m ∧ Wm (i + 1) m' σ' H') ∧ ∀ x H', J.yld i H x H' → LG X W g x σ H' fun σ2 H2 => LS X W body { D with nx := N, ct := N, bk := D.nx } σ2 H2) := by
  subst hY
  refine ⟨fun i m σ H => ∃ env c, c.H = H ∧ Stp c0 c ∧ RE (yx X) c env σ ∧ Rel (yx X) c ∧ i ≤ src.items.length ∧ m = src.items.length - i ∧ PostS (yx X) W D c (forL src.ok g body (src.items.drop i) env c.s),
    ⟨_, env, c0, rfl, Stp.refl, re, r, Nat.zero_le _, rfl, by simpa using h⟩, ?_⟩
  rintro i m σ H ⟨env, c, rfl, st, re, r, hi, rfl, h⟩
  by_cases hlt : i < src.items.length
  · right
    rw [List.drop_eq_getElem_cons hlt] at h
    simp only [forL_e0, forL_e1] at h
    split at h
    · rename_i ok
      refine ⟨rs.go c i st r ok hlt, fun σ' H' => ∃ env c, c.H = H' ∧ Stp c0 c ∧ RE (yx X) c env σ' ∧ Rel (yx X) c ∧ PostS (yx X) W D c (forL src.ok g body (src.items.drop (i + 1)) env c.s),
        fun σ' H' ⟨env', c', e, s', re', r', h'⟩ => ⟨_, by omega, env', c', e, s', re', r', hlt, rfl, h'⟩, fun v H' y => ?_⟩
      obtain ⟨c1, rfl, e1, s1, r1, q1⟩ := rs.yld c i _ v H' st r ok (List.getElem?_eq_getElem hlt) y
      refine ⟨_, env, c1, rfl, re.step r s1, r1, q1, ?_⟩
      have h' := PostS.step h s1
      rw [← e1] at h'
      refine h'.bind (RA := RE (yx X)) (re.step r s1) r1 fun env2 σ2 c2 s2 r2 re2 h2 => ⟨env2, c2, rfl, re2, r2, ?_⟩
      have s02 := (st.trans s1).trans s2
      cases hb : body env2 c2.s with
      | nx e s3 =>
        rw [hb] at h2
        exact fun σ' c3 e3 s3' r3 re3 => ⟨e, c3, rfl, s02.trans s3', re3, r3, by rw [e3]; exact PostS.step h2 s3'⟩
      | cont e s3 =>
        rw [hb] at h2
        exact fun σ' c3 e3 s3' r3 re3 => ⟨e, c3, rfl, s02.trans s3', re3, r3, by rw [e3]; exact PostS.step h2 s3'⟩
      | brk e s3 => rw [hb] at h2; exact h2
      | ret d s3 => rw [hb] at h2; exact h2
      | ex x fs e s3 => rw [hb] at h2; exact h2
      | bad => rw [hb] at h2; exact h2
    · exact h.elim
  · left
    have e : i = src.items.length := by omega
    subst e
    rw [List.drop_length] at h
    simp only [forL_e0, forL_e1] at h
    split at h
    · rename_i ok
      exact ⟨rs.stop c st r ok, h σ c rfl Stp.refl r re⟩
    · exact h.elim
theorem s_for {tg iter : Expr} {body : List Stmt} {mi : MI} {g : MG} {mb : MS} (hp : PassesOwn (model X.prog X.w) X.A X.env X.xe) (hc : X.calm = true) (hi : PI X tg iter (LI X W mi)) (hg : PG X tg (LG X W g)) (hb : PSs X body (LS X W mb))
    (hs : ∀ x, foldedSetIterable iter X.env x = pure x := by intro _; rfl) : PS X (.For tg iter body [] pos) (LS X W (sFor mi g mb)) :=
  (ps_for hp hc hi hg hb hs).imp fun D σ H ⟨env, c, e, re, r, h⟩ => ⟨env, c, e, re, r, h.bind (RA := RSrc (yx X)) re r fun src J c1 s1 r1 q1 h1 => for_turns rfl q1 (re.step r s1) r1 h1⟩
end
end Mp

/-! MP, part D: while, defs, calls. -/
namespace Mp
open PySem PySem.Spec PyProof.Rows L2

/-! ### while -/
/-- so many turns -/
def whN (t : MT) (body : MS) : Nat → Env1 → S → Option RS
  | 0, _, _ => none
  | n + 1, env, s => match t env s with
    | .ok true s1 => (match body env s1 with
      | .nx e s2 => whN t body n e s2
      | .cont e s2 => whN t body n e s2
      | .brk e s2 => some (.nx e s2)
      | .ret d s2 => some (.ret d s2)
      | .ex c fs e s2 => some (.ex c fs e s2)
      | .bad => some .bad)
    | .ok false s1 => some (.nx env s1)
    | .ex x fs s1 => some (.ex x fs env s1)
    | .bad => some .bad
theorem whN_more {t : MT} {body : MS} : ∀ {n : Nat} {env : Env1} {s : S} {r : RS}, whN t body n env s = some r → whN t body (n + 1) env s = some r
  | 0, _, _, _, h => by cases h
  | n + 1, env, s, r, h => by
    unfold whN at h ⊢
    split at h
    · split at h
      · exact whN_more h
      · exact whN_more h
      all_goals exact h
    all_goals exact h
theorem whN_le {t : MT} {body : MS} {n k : Nat} {env : Env1} {s : S} {r : RS} (h : whN t body n env s = some r) : whN t body (n + k) env s = some r := by
  induction k with
  | zero => exact h
  | succ k ih => exact whN_more ih
open Classical in
noncomputable def sWhile (t : MT) (body : MS) : MS := fun env s => if h : ∃ r n, whN t body n env s = some r then h.choose else .bad
theorem sWhile_of {t : MT} {body : MS} {n : Nat} {env : Env1} {s : S} {r : RS} (h : whN t body n env s = some r) : sWhile t body env s = r := by
  have e : ∃ r n, whN t body n env s = some r := ⟨r, n, h⟩
  unfold sWhile
  rw [dif_pos e]
  obtain ⟨m, hm⟩ := e.choose_spec
  have h1 := whN_le (k := m) h
  have h2 := whN_le (k := n) hm
  rw [Nat.add_comm] at h2
  rw [h1] at h2
  exact (Option.some.inj h2).symm
theorem sWhile_ex {t : MT} {body : MS} {env : Env1} {s : S} (h : sWhile t body env s ≠ .bad) : ∃ n, whN t body n env s = some (sWhile t body env s) := by
  unfold sWhile at h ⊢
  split at h
  · rename_i e
    rw [dif_pos e]
    exact e.choose_spec
  · exact absurd rfl h
/-- one turn -/
theorem sWhile_eq {t : MT} {body : MS} {env : Env1} {s : S} : sWhile t body env s = (t env s).thn env fun b s1 => if b then (match body env s1 with
    | .nx e s2 => sWhile t body e s2
    | .cont e s2 => sWhile t body e s2
    | .brk e s2 => .nx e s2
    | .ret d s2 => .ret d s2
    | .ex c fs e s2 => .ex c fs e s2
    | .bad => .bad) else .nx env s1 := by
  cases ht : t env s with
  | ok b s1 =>
    cases b with
    | true =>
      cases hb : body env s1 with
      | nx e s2 =>
        by_cases h : sWhile t body e s2 = .bad
        · by_cases h0 : sWhile t body env s = .bad
          · simp only [R.thn_ok, hb, h, h0, if_true]
          · obtain ⟨n, hn⟩ := sWhile_ex h0
            cases n with
            | zero => cases hn
            | succ n =>
              unfold whN at hn
              simp only [ht, hb] at hn
              have := sWhile_of hn
              simp only [R.thn_ok, hb, if_true]
              exact this.symm
        · obtain ⟨n, hn⟩ := sWhile_ex h
          have : whN t body (n + 1) env s = some (sWhile t body e s2) := by unfold whN; simp only [ht, hb]; exact hn
          simp only [R.thn_ok, hb, if_true]
          exact sWhile_of this
      | cont e s2 =>
        by_cases h : sWhile t body e s2 = .bad
        · by_cases h0 : sWhile t body env s = .bad
          · simp only [R.thn_ok, hb, h, h0, if_true]
          · obtain ⟨n, hn⟩ := sWhile_ex h0
            cases n with
            | zero => cases hn
            | succ n =>
              unfold whN at hn
              simp only [ht, hb] at hn
              have := sWhile_of hn
              simp only [R.thn_ok, hb, if_true]
              exact this.symm
        · obtain ⟨n, hn⟩ := sWhile_ex h
          have : whN t body (n + 1) env s = some (sWhile t body e s2) := by unfold whN; simp only [ht, hb]; exact hn
          simp only [R.thn_ok, hb, if_true]
          exact sWhile_of this
      | brk e s2 => exact sWhile_of (n := 1) (by unfold whN; simp [ht, hb])
      | ret d s2 => exact sWhile_of (n := 1) (by unfold whN; simp [ht, hb])
      | ex x fs e s2 => exact sWhile_of (n := 1) (by unfold whN; simp [ht, hb])
      | bad => exact sWhile_of (n := 1) (by unfold whN; simp [ht, hb])
    | false => exact sWhile_of (n := 1) (by unfold whN; simp [ht])
  | ex x fs s1 => exact sWhile_of (n := 1) (by unfold whN; simp [ht])
  | bad => exact sWhile_of (n := 1) (by unfold whN; simp [ht])
section
variable {X : Cx} {W : WX} {pos : Pos} {a b : Expr} {ma mb : ME}
theorem PostS.notBad {Y : Md} {D : Ends} {c : Cf} {r : RS} (h : PostS Y W D c r) : r ≠ .bad := by
  intro e; rw [e] at h; exact h
theorem s_while {t : Expr} {body : List Stmt} {mt : MT} {mb : MS} (hp : PassesOwn (model X.prog X.w) X.A X.env X.xe) (ht : PT X t (LT X W mt)) (hb : PSs X body (LS X W mb)) : PS X (.While t body [] pos) (LS X W (sWhile mt mb)) := by
  refine (ps_while hp ht hb).imp fun D σ H ⟨env, c, e, re, r, h⟩ => ?_
  subst e
  obtain ⟨n0, hn0⟩ := sWhile_ex h.notBad
  refine ⟨fun n σ H => ∃ env c r, c.H = H ∧ RE (yx X) c env σ ∧ Rel (yx X) c ∧ whN mt mb n env c.s = some r ∧ PostS (yx X) W D c r, ⟨n0, env, c, _, rfl, re, r, hn0, h⟩, ?_⟩
  rintro n σ H ⟨env, c, rr, rfl, re, r, hn, h⟩
  cases n with
  | zero => cases hn
  | succ n =>
    unfold whN at hn
    refine ⟨env, c, rfl, re, r, ?_⟩
    cases ht : mt env c.s with
    | ok bb s1 =>
      intro bv c1 e1 s01 r1 q1
      cases q1
      rw [ht] at hn
      cases bb with
      | true =>
        refine iteT ⟨fun σ' H' => ∃ env c r, c.H = H' ∧ RE (yx X) c env σ' ∧ Rel (yx X) c ∧ whN mt mb n env c.s = some r ∧ PostS (yx X) W D c r, fun σ' H' ⟨env', c', r', e', re', rr', hn', h'⟩ => ⟨n, Nat.lt_succ_self _, env', c', r', e', re', rr', hn', h'⟩, env, c1, rfl, re.step r s01, r1, ?_⟩
        simp only at hn
        cases hb : mb env c1.s with
        | nx e s2 =>
          rw [← e1, hb] at hn
          exact fun σ' c2 e2 s12 r2 re2 => ⟨e, c2, rr, rfl, re2, r2, by rw [e2]; exact hn, PostS.step h (s01.trans s12)⟩
        | cont e s2 =>
          rw [← e1, hb] at hn
          exact fun σ' c2 e2 s12 r2 re2 => ⟨e, c2, rr, rfl, re2, r2, by rw [e2]; exact hn, PostS.step h (s01.trans s12)⟩
        | brk e s2 =>
          rw [← e1, hb] at hn
          cases hn
          exact PostS.step h s01
        | ret d s2 =>
          rw [← e1, hb] at hn
          cases hn
          exact PostS.step h s01
        | ex x fs e s2 =>
          rw [← e1, hb] at hn
          cases hn
          exact PostS.step h s01
        | bad =>
          rw [← e1, hb] at hn
          cases hn
          exact h.elim
      | false =>
        simp only [Option.some.injEq] at hn
        subst hn
        exact iteF (h σ c1 e1 s01 r1 (re.step r s01))
    | ex x fs s1 =>
      rw [ht] at hn
      simp only [Option.some.injEq] at hn
      subst hn
      exact fun cv dx c1 e1 s01 r1 xr => h cv dx σ c1 e1 s01 r1 xr (re.step r s01)
    | bad =>
      rw [ht] at hn
      simp only [Option.some.injEq] at hn
      subst hn
      exact h.elim
end

/-! ### defs -/
/-- a def's body as a function of its arguments: n parameters, z slots in all -/
def fnM (n z : Nat) (body : MS) : List D → S → R D := fun ds s => if ds.length = n then (match body (ds.map some ++ List.replicate (z - n) none) s with
  | .ret d s' => .ok d s'
  | .nx _ s' => .ok (.p .none) s'
  | .ex x fs _ s' => .ex x fs s'
  | _ => .bad) else .bad
/-- the promise that a mirror makes -/
def spM (Y : Md) (n : Nat) (m : List D → S → R D) : Sp := fun vs H Q E => vs.length = n ∧ ∃ ds c, c.H = H ∧ Rel Y c ∧ rds Y c ds vs ∧ Post Y (rd Y) (fun cv dx H' => E cv dx H') c (m ds c.s) Q
/-- the wish of a def about what it lets out -/
abbrev wOut (E : XK) : WX := fun cls d _ H => E cls d H
theorem re_start {Y : Md} {c : Cf} {ds : List D} {vs : List V} {N : List Str} (h : rds Y c ds vs) : RE Y c (ds.map some ++ List.replicate (N.length - vs.length) none) (L2.start N vs) := by
  have hl := Paired.length h
  refine ⟨by simp [L2.start, hl], fun i d e => ?_⟩
  unfold L2.start
  by_cases hi : i < ds.length
  · rw [List.getElem?_append_left (by simpa using hi)] at e
    rw [List.getElem?_append_left (by simpa [← hl] using hi)]
    simp only [List.getElem?_map, Option.map_eq_some_iff] at e
    obtain ⟨d', e1, e2⟩ := e
    cases e2
    have hv : i < vs.length := by omega
    refine ⟨vs[i], by simp [hv], ?_⟩
    have gen : ∀ {ds : List D} {vs : List V} {i : Nat} {d : D} {v : V}, rds Y c ds vs → ds[i]? = some d → vs[i]? = some v → rd Y c d v := by
      intro ds vs i d v h
      induction h generalizing i with
      | nil => intro e; simp at e
      | cons q t ih =>
        intro e1 e2
        cases i with
        | zero => simp at e1 e2; subst e1; subst e2; exact q
        | succ i => simp at e1 e2; exact ih e1 e2
    exact gen h e1 (by simp [hv])
  · rw [List.getElem?_append_right (by simpa using hi)] at e
    rw [List.getElem?_replicate] at e
    split at e <;> cases e
theorem fn_ok {P : Program} {w : World} {K : PySem.W.Frag} {mg : Str → Option Value} {base : Heap} {x qual : Str} {params : Arguments} {body : List Stmt} {scope : Scope} {f : Addr} {fd : FuncData} {N ps : List Str} {k n z : Nat} {m : MS}
    (F : FunD K x qual params body scope [] [] f fd) (Sc : FnScope N ps scope) (hn : ps.length = n) (hz : N.length = z)
    (hb : ∀ (cdv : Value) (A : Around) (outer : List Env) (s : Shared) (H : Hp) (E : XK), Room k (A.deeper (envOfC qual scope s.heap.objs.size f cdv)) →
      PSs (cxOf (L2.CX P w) P w K mg base N qual scope f cdv A outer s H E) body (LS (cxOf (L2.CX P w) P w K mg base N qual scope f cdv A outer s H E) (wOut E) m)) :
    FnOk P w K mg base (L2.CX P w) (k + 1) f fd ps (spM ⟨K, mg⟩ n (fnM n z m)) := by
  subst hn
  subst hz
  refine F.ok Sc (fun vs H Q E h => h.1) fun cdv A outer s H vs Q E hr hsp => ⟨_, hb cdv A outer s H E hr, ?_⟩
  obtain ⟨hl, ds, c, e, r, q, h⟩ := hsp
  have hl2 : ds.length = ps.length := by rw [Paired.length q]; exact hl
  have re : RE (yx (cxOf (L2.CX P w) P w K mg base N qual scope f cdv A outer s H E)) c _ _ := re_start (N := N) q
  refine ⟨_, c, e, re, r, ?_⟩
  unfold fnM at h
  rw [if_pos hl2, ← hl] at h
  generalize hbd : m (ds.map some ++ List.replicate (N.length - vs.length) none) c.s = z at h ⊢
  cases z with
  | nx env' s' => exact fun σ' c' e' st r' re' => h .non c' e' st r' (by show RP K c'.H .none .non; simp [RP])
  | ret d s' => exact fun v c' e' st r' rd' => h v c' e' st r' rd'
  | ex x fs env' s' => exact fun cv dx σ' c' e' st r' xr re' => h cv dx c' e' st r' xr
  | brk env' s' => exact h.elim
  | cont env' s' => exact h.elim
  | bad => exact h.elim

/-! ### calls -/
section
variable {X : Cx} {W : WX} {pos : Pos} {es : List Expr} {ms : MA}
/-- on the caller's heap -/
def mCall (f : List D → S → R D) (ms : MA) : ME := fun env s => (ms env s).bind f
theorem e_call {k n : Nat} {f : Addr} {fd : FuncData} {ps : List Str} {x : Str} {p : Pos} {e : Expr} {m : List D → S → R D} (F : FnOk X.prog X.w X.K X.mg X.base (L2.CX X.prog X.w) k f fd ps (spM (yx X) n m)) (hr : Room k X.A) (hg : Gl X x) (hm : X.mg x = some (.ref f))
    (hk : PySem.W.keepIn X.K (.ref f) = true) (hb : Binds X.K fd ps []) (hn : ps.length = n) (tk : Takes X W) (ha : PA X (e :: es) (LA X W ms)) (hl : ∀ env s ds s', ms env s = .ok ds s' → ds.length = n)
    (hdb : (x == ("__debug__" : Str)) = false := by decide) (he : starEach (e :: es) X.env = (false, eval e X.env) :: starEach es X.env := by rfl) (hpl : (backTo pos (starEach es X.env)).any (·.1) = false := by rfl) :
    PE X (.Call (.Name x p) (e :: es) [] pos) (LE X W (mCall m ms)) := by
  refine (pe_callS (E := fun σ => fun cls d H => W cls d σ H) F hr hg hm hk hb (fun σ => passAt tk σ) ha hdb he hpl).imp fun σ H Q ⟨env, c, e, re, r, h⟩ => ?_
  refine ⟨env, c, e, re, r, ?_⟩
  cases hms : ms env c.s with
  | ok ds s' =>
    unfold mCall at h
    rw [hms] at h
    intro vs c1 e1 s1 r1 q1
    refine ⟨by rw [← Paired.length q1]; exact hl _ _ _ _ hms, ds, c1, rfl, r1, q1, ?_⟩
    rw [e1]
    exact h.step s1
  | ex y fs s' =>
    unfold mCall at h
    rw [hms] at h
    exact h
  | bad =>
    unfold mCall at h
    rw [hms] at h
    exact h.elim
end
end Mp

/-! MP, part E: freezing, what is walked, comprehensions. -/
namespace Mp
open PySem PySem.Spec PyProof.Rows L2

/-! ### freezing -/
/-- some tracked lists and dicts are locked, one after another -/
inductive FZ (Q : Hp → Prop) : Hp → Prop
  | done {H : Hp} : Q H → FZ Q H
  | one {H : Hp} (a : Addr) (u : HO) : H a = some u → Mut (some u) → (∀ o, FZ Q (upd H a (.frz o u))) → FZ Q H
theorem fz_run {X : Cx} {pins : List (Addr × Obj)} {σ : L2.St} {H : Hp} {s : Shared} {Q : Hp → Prop} (h : FZ Q H) (I : Inv X pins σ H s) : ∃ H', Inv X pins σ H' s ∧ Q H' := by
  induction h with
  | done q => exact ⟨_, I, q⟩
  | one a u e mu _ ih =>
    obtain ⟨o, I'⟩ := I.lock e mu
    exact ih o I'
theorem _root_.L2.PE.fz {X : Cx} {e : Expr} {t : TE} (h : PE X e t) : PE X e (fun σ H Q => t σ H fun v H' => FZ (Q v) H') :=
  ⟨fun pins s σ H Q I q => thn (h.run pins s σ H _ I q) fun u s1 ⟨v, H1, I1, r1, f⟩ => let ⟨H2, I2, q2⟩ := fz_run f I1; ⟨v, H2, I2, r1, q2⟩⟩
/-- lists and tuples are no longer than the line -/
def SizeOk (K : PySem.W.Frag) (v : V) (H : Hp) : Prop := ∀ a xs, v = .ref a → (SqL K H a xs ∨ SqT K H a xs) → xs.length ≤ sizeLine
theorem _root_.L2.PE.size {X : Cx} {e : Expr} {t : TE} (h : PE X e t) : PE X e (fun σ H Q => t σ H fun v H' => SizeOk X.K v H' → Q v H') :=
  ⟨fun pins s σ H Q I q => thn (h.run pins s σ H _ I q) fun u s1 ⟨v, H1, I1, r1, f⟩ => ⟨v, H1, I1, r1, f fun a xs _ hq => by
    rcases hq with hq | hq
    · obtain ⟨_, _, _, z⟩ := I1.list hq; exact z
    · obtain ⟨_, _, _, z⟩ := I1.tuple hq; exact z⟩⟩

/-- something at an address that the mirror doesn't own is changed: no tuple, nothing frozen, nobody's dict -/
theorem Rel.poke {Y : Md} {c : Cf} (r : Rel Y c) {a : Addr} {u u' : HO} (h : c.H a = some u) (mv : Movable u) (no : ¬ c.Own a) : Rel Y { c with H := upd c.H a u' } := by
  have st : Stay c.H (upd c.H a u') := fun b => by
    refine ⟨fun xs e => ?_, fun o v e => ?_⟩
    · rw [upd_ne]
      · exact e
      · intro z; subst z; rw [h] at e; cases e; exact mv
    · rw [upd_ne]
      · exact e
      · intro z; subst z; rw [h] at e; cases e; exact mv
  have own : ∀ (b d : Addr), c.H d = some (.own b) → upd c.H a u' d = some (.own b) := fun b d e => by
    rw [upd_ne]
    · exact e
    · intro z; subst z; rw [h] at e; cases e; exact mv
  have keep : ∀ b, b ≠ a → ∀ v, c.H b = some v → upd c.H a u' b = some v := fun b e v z => by rw [upd_ne e]; exact z
  refine ⟨fun i x e => ?_, fun i x e => ?_, r.gl, r.wl, r.gi, r.wi, r.gw⟩
  · obtain ⟨b, e1, q⟩ := r.g i x e
    exact ⟨b, e1, q.up (fun _ _ z => z) (fun _ _ z => z) st (fun v z => keep b (fun w => by subst w; exact no (.inl ⟨i, x, e, e1⟩)) v z) (fun d z => own b d z)⟩
  · obtain ⟨b, e1, q⟩ := r.w i x e
    exact ⟨b, e1, q.up (fun _ _ z => z) (fun _ _ z => z) st (fun v z => keep b (fun w => by subst w; exact no (.inr ⟨i, x, e, e1⟩)) v z) (fun d z => own b d z)⟩
theorem Stp.poke {c0 c : Cf} {a : Addr} {u' : HO} (s : Stp c0 c) (h : c0.H a = none ∨ c0.Own a) : Stp c0 { c with H := upd c.H a u' } :=
  ⟨s.m, s.o, s.own, fun b v e n => by
    show upd c.H a u' b = some v
    rw [upd_ne]
    · exact s.ext b v e n
    · intro z; subst z
      rcases h with h | h
      · rw [h] at e; cases e
      · exact n h⟩
/-- an object that stands unowned becomes the mirror's own -/
def Cf.adopt (c : Cf) (t : Addr) (x : G) : Cf := ⟨{ c.s with g := c.s.g ++ [some x] }, c.m ++ [t], c.o, c.H⟩
theorem Rel.adopt {Y : Md} {c : Cf} (r : Rel Y c) {t : Addr} {x : G} (n : ¬ c.Own t) (hx : RG Y (c.m ++ [t]) c.o c.H x t) : Rel Y (c.adopt t x) := by
  have hm : ∀ (i : Nat) (a : Addr), c.m[i]? = some a → (c.m ++ [t])[i]? = some a := fun i a h => get_app h
  have stH : Stay c.H c.H := fun a => ⟨fun _ z => z, fun _ _ z => z⟩
  have alive : ∀ (i : Nat) (y : G) (a : Addr), c.s.g[i]? = some (some y) → c.m[i]? = some a → a ≠ t := fun i y a h1 h2 z => by
    subst z
    exact n (.inl ⟨i, y, h1, h2⟩)
  have aliveW : ∀ (i : Nat) (y : G) (a : Addr), c.s.w[i]? = some (some y) → c.o[i]? = some a → a ≠ t := fun i y a h1 h2 z => by
    subst z
    exact n (.inr ⟨i, y, h1, h2⟩)
  have cas : ∀ (i : Nat) (y : G) (a : Addr), (c.s.g ++ [some x])[i]? = some (some y) → (c.m ++ [t])[i]? = some a → (c.s.g[i]? = some (some y) ∧ c.m[i]? = some a) ∨ (i = c.s.g.length ∧ a = t) := fun i y a h1 h2 => by
    rcases get_app_one h1 with g1 | ⟨e, _⟩
    · left
      rcases get_app_one h2 with g2 | ⟨e, _⟩
      · exact ⟨g1, g2⟩
      · have := (List.getElem?_eq_some_iff.mp g1).1
        rw [e, r.gl] at this; omega
    · right
      refine ⟨e, ?_⟩
      rcases get_app_one h2 with g2 | ⟨_, e2⟩
      · have := r.lt g2; omega
      · exact e2
  refine ⟨fun i y h => ?_, fun i y h => r.w i y h, by simp [Cf.adopt, r.gl], r.wl, fun i j y z a h1 h2 h3 h4 => ?_, r.wi, fun a h1 h2 => ?_⟩
  · rcases get_app_one h with g1 | ⟨e, ey⟩
    · obtain ⟨a, e, q⟩ := r.g i y g1
      exact ⟨a, get_app e, q.up hm (fun _ _ z => z) stH (fun v z => z) (fun d z => z)⟩
    · cases ey
      refine ⟨t, ?_, hx⟩
      show (c.m ++ [t])[i]? = some t
      rw [e, ← r.gl]; simp
  · rcases cas i y a h1 h3 with ⟨p1, p2⟩ | ⟨p1, p2⟩
    · rcases cas j z a h2 h4 with ⟨q1, q2⟩ | ⟨q1, q2⟩
      · exact r.gi i j y z a p1 q1 p2 q2
      · exact absurd q2 (alive i y a p1 p2)
    · rcases cas j z a h2 h4 with ⟨q1, q2⟩ | ⟨q1, q2⟩
      · exact absurd p2 (alive j z a q1 q2)
      · omega
  · obtain ⟨i, y, h1, h3⟩ := h1
    rcases cas i y a h1 h3 with ⟨p1, p2⟩ | ⟨p1, p2⟩
    · exact r.gw a ⟨i, y, p1, p2⟩ h2
    · obtain ⟨j, z, q1, q2⟩ := h2
      exact aliveW j z a q1 q2 p2
theorem Stp.adopt {Y : Md} {c0 c : Cf} (r : Rel Y c) (s : Stp c0 c) {t : Addr} {x : G} (n : c0.H t = none) : Stp c0 (c.adopt t x) where
  m := fun i a h => get_app (s.m i a h)
  o := s.o
  own := fun a h => by
    rcases h with ⟨i, y, h1, h2⟩ | h
    · rcases get_app_one h2 with g2 | ⟨_, e⟩
      · rcases get_app_one h1 with g1 | ⟨e, _⟩
        · exact s.own a (.inl ⟨i, y, g1, g2⟩)
        · have := r.lt g2; omega
      · subst e; exact .inr n
    · exact s.own a (.inr h)
  ext := s.ext

section
variable {X : Cx} {W : WX} {pos : Pos} {a b : Expr} {ma mb : ME}

/-! ### what is walked -/
def strItems (x : Str) : List D := x.cps.toList.map fun k => .p (.str ⟨#[k]⟩)
/-- any list, tuple or text -/
def srcOf (d : D) (s : S) : R Src := match d with
  | .p (.tuple ps) => .ok (.fix (ps.map .p)) s
  | .p (.list ps) => .ok (.fix (ps.map .p)) s
  | .p (.str x) => .ok (.fix (strItems x)) s
  | .ref i => match s.g[i]? with
    | some (some (.lst xs)) => .ok (.own i xs) s
    | _ => .bad
  | _ => .bad
def mSeq (ma : ME) : MI := fun env s => (ma env s).bind srcOf
theorem Paired.get {α β : Type} {F : α → β → Prop} {l₁ : List α} {l₂ : List β} (h : Paired F l₁ l₂) : ∀ {i : Nat} {x : α} {y : β}, l₁[i]? = some x → l₂[i]? = some y → F x y := by
  induction h with
  | nil => intro i x y e; simp at e
  | cons q t ih =>
    intro i x y e1 e2
    cases i with
    | zero => simp at e1 e2; subst e1; subst e2; exact q
    | succ i => simp at e1 e2; exact ih e1 e2
theorem Paired.get_ex {α β : Type} {F : α → β → Prop} {l₁ : List α} {l₂ : List β} (h : Paired F l₁ l₂) {i : Nat} {x : α} (e : l₁[i]? = some x) : ∃ y, l₂[i]? = some y ∧ F x y := by
  have hl := Paired.length h
  have h1 := (List.getElem?_eq_some_iff.mp e).1
  exact ⟨l₂[i]'(by omega), by simp [show i < l₂.length by omega], Paired.get h e (by simp [show i < l₂.length by omega])⟩
/-- a tuple's items -/
theorem rsrc_tup {Y : Md} {c0 : Cf} (r0 : Rel Y c0) {t : Addr} {vs : List V} {ds : List D} (h : SqT Y.K c0.H t vs) (q : RDs Y c0.m c0.o c0.H ds vs) : RSrc Y c0 (.fix ds) (Itt Y.K t) where
  stop := fun c st r _ => ⟨vs, (st.stay r0).sqT h, by show vs.length ≤ ds.length; rw [Paired.length q]; exact Nat.le_refl _⟩
  go := fun c i st r _ hi => ⟨vs, vs[i]'(by rw [← Paired.length q]; exact hi), (st.stay r0).sqT h, by simp [show i < vs.length by rw [← Paired.length q]; exact hi]⟩
  yld := fun c i x v H' st r _ hx y => by
    obtain ⟨e, y⟩ := y
    subst e
    have hv := y vs ((st.stay r0).sqT h)
    exact ⟨c, rfl, rfl, Stp.refl, r, (Paired.get q hx hv).step r0 st⟩
theorem rsrc_lst {Y : Md} {c0 : Cf} (r0 : Rel Y c0) {t : Addr} {vs : List V} {ds : List D} (h : FzL Y.K c0.H t vs) (q : RDs Y c0.m c0.o c0.H ds vs) : RSrc Y c0 (.fix ds) (Itl Y.K t) where
  stop := fun c st r _ => ⟨vs, ((st.stay r0).fzL h).sq, by show vs.length ≤ ds.length; rw [Paired.length q]; exact Nat.le_refl _⟩
  go := fun c i st r _ hi => ⟨vs, vs[i]'(by rw [← Paired.length q]; exact hi), ((st.stay r0).fzL h).sq, by simp [show i < vs.length by rw [← Paired.length q]; exact hi]⟩
  yld := fun c i x v H' st r _ hx y => by
    obtain ⟨e, y⟩ := y
    subst e
    have hv := y vs ((st.stay r0).fzL h).sq
    exact ⟨c, rfl, rfl, Stp.refl, r, (Paired.get q hx hv).step r0 st⟩
theorem rsrc_own {Y : Md} {c0 : Cf} (r0 : Rel Y c0) {i : Nat} {t : Addr} {ds : List D} (ht : c0.m[i]? = some t) : RSrc Y c0 (.own i ds) (Itl Y.K t) where
  stop := fun c st r ok => by
    obtain ⟨t', e, vs, e2, q⟩ := r.g i _ ok
    rw [st.m i t ht] at e; cases e
    exact ⟨vs, SqL.of e2, by show vs.length ≤ ds.length; rw [Paired.length q]; exact Nat.le_refl _⟩
  go := fun c j st r ok hj => by
    obtain ⟨t', e, vs, e2, q⟩ := r.g i _ ok
    rw [st.m i t ht] at e; cases e
    have hl : j < vs.length := by rw [← Paired.length q]; exact hj
    exact ⟨vs, vs[j], SqL.of e2, by simp [hl]⟩
  yld := fun c j x v H' st r ok hx y => by
    obtain ⟨t', e, vs, e2, q⟩ := r.g i _ ok
    rw [st.m i t ht] at e; cases e
    obtain ⟨e3, y⟩ := y
    subst e3
    have hv := y vs (SqL.of e2)
    exact ⟨c, rfl, rfl, Stp.refl, r, Paired.get q hx hv⟩
theorem rsrc_str {Y : Md} {c0 : Cf} {x : Str} : RSrc Y c0 (.fix (strItems x)) (Its x) := by
  have hl : (strItems x).length = x.cps.size := by simp [strItems]
  refine ⟨fun c st r _ => ?_, fun c i st r _ hi => ?_, fun c i y v H' st r _ hx yl => ?_⟩
  · show (Its x).stop (strItems x).length c.H
    rw [hl]
    exact (walk_str (z := x)).stops c.H trivial
  · exact (walk_str (z := x)).goes i c.H (by rw [← hl]; exact hi) trivial
  · have hi : i < x.cps.size := by rw [← hl]; exact (List.getElem?_eq_some_iff.mp hx).1
    obtain ⟨e, k, ek, ev⟩ := (walk_str (z := x)).yields i c.H v H' hi trivial yl
    subst e
    refine ⟨c, rfl, rfl, Stp.refl, r, ?_⟩
    simp only [Src.items, strItems, List.getElem?_map, Option.map_eq_some_iff, Array.getElem?_toList] at hx
    obtain ⟨k', e1, e2⟩ := hx
    rw [ek] at e1; cases e1
    subst e2
    subst ev
    simp [RD, RP]
theorem i_seq {tg : Expr} (ha : PE X a (LE X W ma)) : PI X tg a (LI X W (mSeq ma)) := by
  refine ⟨fun pins s σ H R I ⟨env, c, e, re, r, h⟩ => ?_⟩
  cases hd : ma env c.s with
  | ex x fs s1 =>
    unfold mSeq at h
    rw [hd] at h
    exact (pi_list ha).run pins s σ H R I ⟨env, c, e, re, r, by rw [hd]; exact h⟩
  | bad => unfold mSeq at h; rw [hd] at h; exact h.elim
  | ok d s1 =>
    unfold mSeq at h
    rw [hd] at h
    simp only [Mp.R.bind_ok] at h
    cases d with
    | well i => exact h.elim
    | fn x => exact h.elim
    | ref i =>
      unfold srcOf at h
      simp only at h
      split at h
      · rename_i xs ex
        refine (pi_list ha).run pins s σ H R I ⟨env, c, e, re, r, ?_⟩
        rw [hd]
        intro v c1 e1 s1' r1 q1
        obtain ⟨t, et, rfl⟩ := q1
        obtain ⟨t', et', vs, e2, q2⟩ := r1.g i (.lst xs) (by rw [e1]; exact ex)
        rw [et] at et'; cases et'
        exact ⟨t, rfl, ⟨vs, SqL.of e2⟩, h _ c1 e1 s1' r1 (rsrc_own r1 et)⟩
      · exact h.elim
    | p x =>
      cases x with
      | tuple ps =>
        refine (pi_tup ha).run pins s σ H R I ⟨env, c, e, re, r, ?_⟩
        rw [hd]
        intro v c1 e1 s1' r1 q1
        have q : RP X.K c1.H (.tuple ps) v := q1
        simp only [RP] at q
        obtain ⟨t, vs, rfl, h1, h2⟩ := q
        exact ⟨t, rfl, ⟨vs, h1⟩, h _ c1 e1 s1' r1 (rsrc_tup r1 h1 h2.rds)⟩
      | list ps =>
        refine (pi_list ha).run pins s σ H R I ⟨env, c, e, re, r, ?_⟩
        rw [hd]
        intro v c1 e1 s1' r1 q1
        have q : RP X.K c1.H (.list ps) v := q1
        simp only [RP] at q
        obtain ⟨t, vs, rfl, h1, h2⟩ := q
        exact ⟨t, rfl, ⟨vs, h1.sq⟩, h _ c1 e1 s1' r1 (rsrc_lst r1 h1 h2.rds)⟩
      | str z =>
        refine (pi_str ha).run pins s σ H R I ⟨env, c, e, re, r, ?_⟩
        rw [hd]
        intro v c1 e1 s1' r1 q1
        have q : RP X.K c1.H (.str z) v := q1
        simp only [RP] at q
        subst q
        exact ⟨z, rfl, h _ c1 e1 s1' r1 rsrc_str⟩
      | none => exact h.elim
      | bool k => exact h.elim
      | int k => exact h.elim
      | dict k => exact h.elim
/-- range(n), range(lo, hi) -/
def rngItems (lo : Int) (n : Nat) : List D := (List.range n).map fun (k : Nat) => .p (.int (lo + (k : Int)))
def rngOk (i j : Int) : Prop := -(2 ^ 62) ≤ i ∧ i < 2 ^ 62 ∧ -(2 ^ 62) ≤ j ∧ j < 2 ^ 62
instance (i j : Int) : Decidable (rngOk i j) := by unfold rngOk; exact inferInstance
def mRange1 (ma : ME) : MI := fun env s => (ma env s).bind fun d s1 => match d with
  | .p (.int j) => if rngOk 0 j then .ok (.fix (rngItems 0 j.toNat)) s1 else .bad
  | _ => .bad
def mRange2 (ma mb : ME) : MI := fun env s => (ma env s).bind fun d1 s1 => (mb env s1).bind fun d2 s2 => match d1, d2 with
  | .p (.int i), .p (.int j) => if rngOk i j then .ok (.fix (rngItems i (j - i).toNat)) s2 else .bad
  | _, _ => .bad
theorem rsrc_rng {Y : Md} {c0 : Cf} {lo : Int} {n : Nat} : RSrc Y c0 (.fix (rngItems lo n)) (Itr lo n) := by
  have hl : (rngItems lo n).length = n := by simp [rngItems]
  refine ⟨fun c st r _ => ?_, fun c i st r _ hi => ?_, fun c i y v H' st r _ hx yl => ?_⟩
  · show n ≤ (rngItems lo n).length
    rw [hl]; exact Nat.le_refl _
  · show i < n
    rw [← hl]; exact hi
  · obtain ⟨e, ev⟩ := yl
    subst e
    refine ⟨c, rfl, rfl, Stp.refl, r, ?_⟩
    simp only [Src.items, rngItems, List.getElem?_map, Option.map_eq_some_iff, List.getElem?_range'] at hx
    obtain ⟨k', e1, e2⟩ := hx
    have hi : i < n := by
      have := (List.getElem?_eq_some_iff.mp e1).1
      simpa using this
    rw [List.getElem?_range hi] at e1
    cases e1
    subst e2
    subst ev
    show RP Y.K c.H (.int (lo + (i : Int))) (.int (lo + (i : Int)))
    simp [RP]
theorem a_one (ha : PE X a (LE X W ma)) (hst : starEach [a] X.env = [(false, eval a X.env)] := by rfl) {σ : L2.St} {H : Hp} {Q : List V → Hp → Prop} {env : Env1} {c : Cf} {α β : Type} {RA : Cf → α → β → Prop} {f : D → S → R α} {Q' : β → Hp → Prop} (e : c.H = H) (re : RE (yx X) c env σ) (r : Rel (yx X) c)
    (h : Post (yx X) RA (fun cv dx H' => W cv dx σ H') c ((ma env c.s).bind f) Q') (k : ∀ d v c1, Stp c c1 → Rel (yx X) c1 → rd (yx X) c1 d v → Post (yx X) RA (fun cv dx H' => W cv dx σ H') c1 (f d c1.s) Q' → Q [v] c1.H) : LA X W (mCons ma mNil) σ H Q := by
  refine ⟨env, c, e, re, r, ?_⟩
  cases hd : ma env c.s with
  | ok d s1 =>
    rw [hd] at h
    unfold mCons mNil
    rw [hd]
    intro vs c1 e1 s01 r1 q
    cases q with
    | cons q t =>
      cases t
      exact k d _ c1 s01 r1 q (by rw [e1]; exact h.step s01)
  | ex x fs s1 => rw [hd] at h; unfold mCons; rw [hd]; exact h
  | bad => rw [hd] at h; exact h.elim
theorem i_range1 {tg : Expr} {p : Pos} (hg : Gl X "range") (hm : X.mg "range" = none) (ha : PE X a (LE X W ma)) (hs : starEach [a] X.env = [(false, eval a X.env)] := by rfl) : PI X tg (.Call (.Name "range" p) [a] [] pos) (LI X W (mRange1 ma)) := by
  refine (pi_range1 hg hm (a_cons ha a_nil hs) hs).imp fun σ H R ⟨env, c, e, re, r, h⟩ => a_one ha hs e re r h fun d v c1 s1 r1 q1 h1 => ?_
  split at h1
  · rename_i j
    have q : RP X.K c1.H (.int j) v := q1
    simp only [RP] at q
    subst q
    split at h1
    · rename_i hj
      exact ⟨j, rfl, hj.2.2.1, hj.2.2.2, h1.here r1 rsrc_rng⟩
    · exact h1.elim
  · exact h1.elim
theorem i_range2 {tg : Expr} {p : Pos} (hg : Gl X "range") (hm : X.mg "range" = none) (ha : PE X a (LE X W ma)) (hb : PE X b (LE X W mb)) (hs : starEach [a, b] X.env = [(false, eval a X.env), (false, eval b X.env)] := by rfl) (hs2 : starEach [b] X.env = [(false, eval b X.env)] := by rfl) :
    PI X tg (.Call (.Name "range" p) [a, b] [] pos) (LI X W (mRange2 ma mb)) := by
  refine (pi_range2 hg hm (pa_cons ha (pa_cons hb pa_nil (by rw [hs2]; rfl)) (by rw [hs, hs2])) hs hs2).imp fun σ H R ⟨env, c, e, re, r, h⟩ => ⟨env, c, e, re, r, h.bind fun d1 v1 c1 s1 r1 q1 h1 => ⟨env, c1, rfl, re.step r s1, r1, h1.bind fun d2 v2 c2 s2 r2 q2 h2 => ?_⟩⟩
  split at h2
  · rename_i i j
    have q : RP X.K c2.H (.int i) v1 := q1.step r1 s2
    have q' : RP X.K c2.H (.int j) v2 := q2
    simp only [RP] at q q'
    subst q
    subst q'
    split at h2
    · rename_i hj
      exact ⟨i, j, rfl, hj, h2.here r2 rsrc_rng⟩
    · exact h2.elim
  · exact h2.elim
end
end Mp

/-! MP, part F: list comprehensions; enumerate, zip. -/
namespace Mp
open PySem PySem.Spec PyProof.Rows L2

/-! ### slots forgotten -/
def wipeE (env : Env1) : List Nat → Env1
  | [] => env
  | v :: vs => (wipeE env vs).set v none
theorem RE.wipe {Y : Md} {c : Cf} {env : Env1} {σ : L2.St} (h : RE Y c env σ) : ∀ vs : List Nat, RE Y c (wipeE env vs) (wipe σ vs)
  | [] => h
  | v :: vs => (RE.wipe h vs).unset v
theorem wipe_get (σ : L2.St) (j : Nat) : ∀ vs : List Nat, (wipe σ vs)[j]? = if j ∈ vs ∧ j < σ.length then some none else σ[j]?
  | [] => by simp [wipe]
  | v :: vs => by
    unfold wipe
    by_cases e : j = v
    · subst e
      by_cases hl : j < σ.length
      · rw [List.getElem?_set_self (by rw [wipe_length]; exact hl), if_pos ⟨List.mem_cons_self, hl⟩]
      · rw [if_neg (fun q => hl q.2)]
        rw [List.getElem?_eq_none (by rw [List.length_set, wipe_length]; omega), List.getElem?_eq_none (by omega)]
    · rw [List.getElem?_set_ne (Ne.symm e), wipe_get σ j vs]
      simp [e]
theorem wipe_same {σ τ : L2.St} {vs : List Nat} (hl : τ.length = σ.length) (h : ∀ j, j ∉ vs → τ[j]? = σ[j]?) : wipe τ vs = wipe σ vs := by
  apply List.ext_getElem?
  intro j
  rw [wipe_get, wipe_get, hl]
  by_cases e : j ∈ vs
  · by_cases hj : j < σ.length
    · rw [if_pos ⟨e, hj⟩, if_pos ⟨e, hj⟩]
    · rw [if_neg (fun q => hj q.2), if_neg (fun q => hj q.2), List.getElem?_eq_none (by omega), List.getElem?_eq_none (by omega)]
  · rw [if_neg (fun q => e q.1), if_neg (fun q => e q.1), h j e]
theorem wipe_wipe {σ : L2.St} {vs : List Nat} : wipe (wipe σ vs) vs = wipe σ vs := wipe_same (wipe_length σ vs) fun j hj => by rw [wipe_get, if_neg fun q => hj q.1]

/-! ### targets of a comprehension -/
def TgOk (Y : Md) (t : TG) (g : MG) (vs : List Nat) : Prop := ∀ (σ : L2.St) (env : Env1) (c : Cf) (d : D) (v : V) (WE : Value → Option Addr → Hp → Prop) (Q : L2.St → Hp → Prop), RE Y c env (wipe σ vs) → Rel Y c → rd Y c d v →
  Post Y (RE Y) WE c (g d env c.s) Q → t v (wipe σ vs) c.H fun σ2 H2 => wipe σ2 vs = wipe σ vs ∧ Q σ2 H2
theorem tg_name {Y : Md} {i : Nat} {vs : List Nat} (hi : i ∈ vs) : TgOk Y (gName i) (gSet i) vs := fun σ env c d v WE Q re r q h => by
  refine ⟨?_, h.here r (re.set i q)⟩
  refine (wipe_same (σ := wipe σ vs) (by simp) fun j hj => ?_).trans wipe_wipe
  exact List.getElem?_set_ne (fun e => hj (by rw [← e]; exact hi))
def tgs : List Nat → TGs
  | [] => gNil
  | i :: is => gCons (gName i) (tgs is)
def mgs : List Nat → List D → Env1 → S → R Env1
  | [] => gNone
  | i :: is => gMore (gSet i) (mgs is)
theorem tgs_ok {Y : Md} {WE : Value → Option Addr → Hp → Prop} {c : Cf} (r : Rel Y c) : ∀ {is : List Nat} {σ : L2.St} {env : Env1} {ds : List D} {vs : List V} {Q : L2.St → Hp → Prop}, RE Y c env σ → rds Y c ds vs → Post Y (RE Y) WE c (mgs is ds env c.s) Q →
    tgs is vs σ c.H fun σ2 H2 => (σ2.length = σ.length ∧ ∀ j, j ∉ is → σ2[j]? = σ[j]?) ∧ Q σ2 H2
  | [], σ, env, ds, vs, Q, re, q, h => by
    cases q with
    | nil => exact ⟨rfl, ⟨rfl, fun _ _ => rfl⟩, h.here r re⟩
    | cons _ _ => exact h.elim
  | i :: is, σ, env, ds, vs, Q, re, q, h => by
    cases q with
    | nil => exact h.elim
    | cons q qr =>
      refine ⟨_, _, rfl, ?_⟩
      have h' := tgs_ok (WE := WE) (Q := Q) r (is := is) (re.set i q) qr h
      have gen : ∀ (t : TGs) (vs : List V) (σ : L2.St) (H : Hp) (Q Q' : L2.St → Hp → Prop), (∀ a b, Q a b → Q' a b) → (∃ is, t = tgs is) → t vs σ H Q → t vs σ H Q' := by
        rintro t vs σ H Q Q' i ⟨is, rfl⟩
        induction is generalizing vs σ H with
        | nil => exact fun ⟨e, q⟩ => ⟨e, i _ _ q⟩
        | cons j js ih => exact fun ⟨v, rr, e, q⟩ => ⟨v, rr, e, ih _ _ _ q⟩
      refine gen _ _ _ _ _ _ (fun σ2 H2 ⟨⟨h1, h2⟩, h3⟩ => ⟨⟨by rw [h1]; simp, fun j hj => ?_⟩, h3⟩) ⟨is, rfl⟩ h'
      rw [h2 j fun z => hj (List.mem_cons_of_mem _ z)]
      exact List.getElem?_set_ne fun e => hj (by rw [← e]; exact List.mem_cons_self)
theorem tg_tup {Y : Md} {is vs : List Nat} {n : Nat} (hi : ∀ i ∈ is, i ∈ vs) : TgOk Y (L2.gTup Y.K n (tgs is)) (gTup n (mgs is)) vs := fun σ env c d v WE Q re r q h => by
  unfold gTup at h
  split at h
  · rename_i ps
    split at h
    · rename_i hl
      have q' : RP Y.K c.H (.tuple ps) v := q
      simp only [RP] at q'
      obtain ⟨t, us, rfl, h1, h2⟩ := q'
      refine ⟨t, us, rfl, h1, by rw [← h2.length]; exact hl, ?_⟩
      have h' := tgs_ok (WE := WE) r (is := is) re h2.rds h
      have gen : ∀ (is : List Nat) (us : List V) (σ : L2.St) (H : Hp) (Q Q' : L2.St → Hp → Prop), (∀ a b, Q a b → Q' a b) → tgs is us σ H Q → tgs is us σ H Q' := by
        intro is us σ H Q Q' i
        induction is generalizing us σ H with
        | nil => exact fun ⟨e, q⟩ => ⟨e, i _ _ q⟩
        | cons j js ih => exact fun ⟨v, rr, e, q⟩ => ⟨v, rr, e, ih _ _ _ q⟩
      refine gen _ _ _ _ _ _ (fun σ2 H2 ⟨⟨e1, e2⟩, e3⟩ => ⟨?_, e3⟩) h'
      exact (wipe_same (σ := wipe σ vs) e1 fun j hj => e2 j fun z => hj (hi j z)).trans wipe_wipe
    · exact h.elim
  · exact h.elim

/-! ### list comprehensions -/
/-- nothing is raised -/
abbrev wNo : WX := fun _ _ _ _ => False
/-- nothing may be raised within -/
def noex {α : Type} : R α → R α
  | .ok a s => .ok a s
  | _ => .bad
@[simp] theorem noex_ok {α : Type} {a : α} {s : S} : noex (R.ok a s) = .ok a s := rfl
theorem Post.bindN {α β γ δ : Type} {Y : Md} {RA : Cf → α → β → Prop} {RC : Cf → γ → δ → Prop} {WE WE' : Value → Option Addr → Hp → Prop} {c0 c : Cf} {ra : R α} {f : α → S → R γ} {Q : δ → Hp → Prop} {Q1 : β → Hp → Prop} (h : Post Y RC WE c0 ((noex ra).bind f) Q)
    (k : ∀ a b c1, Stp c c1 → Rel Y c1 → RA c1 a b → Post Y RC WE c0 (f a c1.s) Q → Q1 b c1.H) : Post Y RA WE' c ra Q1 := by
  cases ra with
  | ok a s' => exact fun b c2 e s2 r2 ra => k a b c2 s2 r2 ra (by rw [e]; exact h)
  | ex x fs s' => exact h.elim
  | bad => exact h
open Classical in
/-- the items of the new list, from the items that are left -/
noncomputable def lcL0 (ok : S → Prop) (g : MG) (tt : MT) (me : ME) (env0 : Env1) : List D → S → R (List D)
  | [], s => if ok s then .ok [] s else .bad
  | x :: xs, s => if ok s then (noex (g x env0 s)).bind fun env1 s1 => (noex (tt env1 s1)).bind fun b s2 =>
      if b then (noex (me env1 s2)).bind fun d s3 => (lcL0 ok g tt me env0 xs s3).bind fun ds s4 => .ok (d :: ds) s4
      else lcL0 ok g tt me env0 xs s2
    else .bad
theorem lcL_ex : ∃ f : (S → Prop) → MG → MT → ME → Env1 → List D → S → R (List D), f = lcL0 := ⟨_, rfl⟩
noncomputable def lcL : (S → Prop) → MG → MT → ME → Env1 → List D → S → R (List D) := Classical.choose lcL_ex
theorem lcL_seal : lcL = lcL0 := Classical.choose_spec lcL_ex
open Classical in
theorem lcL_e0 {ok : S → Prop} {g : MG} {tt : MT} {me : ME} {env0 : Env1} {s : S} : lcL ok g tt me env0 [] s = if ok s then .ok [] s else .bad := by rw [lcL_seal]; rfl
open Classical in
theorem lcL_e1 {ok : S → Prop} {g : MG} {tt : MT} {me : ME} {env0 : Env1} {x : D} {xs : List D} {s : S} : lcL ok g tt me env0 (x :: xs) s = if ok s then (noex (g x env0 s)).bind fun env1 s1 => (noex (tt env1 s1)).bind fun b s2 =>
      if b then (noex (me env1 s2)).bind fun d s3 => (lcL ok g tt me env0 xs s3).bind fun ds s4 => .ok (d :: ds) s4
      else lcL ok g tt me env0 xs s2
    else .bad := by rw [lcL_seal]; rfl
open Classical in
noncomputable def lcK (ok : S → Prop) (g : MG) (tt : MT) (me : ME) (env0 : Env1) (k : List D → S → R D) : List D → List D → S → R D
  | [], acc, s => if ok s then k acc s else .bad
  | x :: xs, acc, s => if ok s then (noex (g x env0 s)).bind fun env1 s1 => (noex (tt env1 s1)).bind fun b s2 =>
      if b then (noex (me env1 s2)).bind fun d s3 => lcK ok g tt me env0 k xs (acc ++ [d]) s3
      else lcK ok g tt me env0 k xs acc s2
    else .bad
theorem lcK_eq {ok : S → Prop} {g : MG} {tt : MT} {me : ME} {env0 : Env1} {k : List D → S → R D} : ∀ {xs acc : List D} {s : S}, (lcL ok g tt me env0 xs s).bind (fun ds s' => k (acc ++ ds) s') = lcK ok g tt me env0 k xs acc s
  | [], acc, s => by
    rw [lcL_e0]; unfold lcK
    split
    · simp
    · rfl
  | x :: xs, acc, s => by
    rw [lcL_e1]; unfold lcK
    split
    · rw [R.bind_assoc]
      congr 1
      funext env1 s1
      rw [R.bind_assoc]
      congr 1
      funext b s2
      split
      · rw [R.bind_assoc]
        congr 1
        funext d s3
        rw [R.bind_assoc, ← lcK_eq (xs := xs) (acc := acc ++ [d])]
        congr 1
        funext ds s4
        simp
      · exact lcK_eq
    · rfl
def mYes : MT := fun _ s => .ok true s
noncomputable def mLc (mi : MI) (vs : List Nat) (g : MG) (tt : MT) (me : ME) (k : List D → S → R D) : ME := fun env s => (mi env s).bind fun src s1 =>
  if sizeOk src.items.length then (lcL src.ok g tt me (wipeE env vs) src.items s1).bind k else .bad
theorem lc_turns {X : Cx} {W : WX} {src : Src} {J : It} {t : TG} {g : MG} {tt : MT} {me : ME} {vs : List Nat} {c0 : Cf} (rs : RSrc (yx X) c0 src J) (tg : TgOk (yx X) t g vs) {σ : L2.St} {env : Env1} (re : RE (yx X) c0 env σ) (r : Rel (yx X) c0) {k : List D → S → R D} {WE : Value → Option Addr → Hp → Prop} {Qf Q : VK} {Dl : Addr} (nD : c0.H Dl = none)
    (hz : sizeOk src.items.length = true) (h : Post (yx X) (rd (yx X)) WE c0 ((lcL src.ok g tt me (wipeE env vs) src.items c0.s).bind k) Qf)
    (fin : ∀ c ds us, Stp c0 c → Rel (yx X) c → c.H Dl = some (.lst us) → ¬ c.Own Dl → rds (yx X) c ds us → Post (yx X) (rd (yx X)) WE c0 (k ds c.s) Qf → Q (.ref Dl) c.H) :
    ∃ Wm : Nat → Nat → Hp → Prop, (∃ m, Wm 0 m (upd c0.H Dl (.lst []))) ∧ ∀ i m H, Wm i m H →
      (J.stop i H ∧ Q (.ref Dl) H) ∨ (J.go i H ∧ ∃ Nx : Hp → Prop, (∀ H', Nx H' → ∃ m', m' < m ∧ Wm (i + 1) m' H') ∧ ∀ x H', J.yld i H x H' → t x (wipe σ vs) H' fun σ2 H2 => wipe σ2 vs = wipe σ vs ∧ LT X W tt σ2 H2 fun b H3 =>
        if b = true then LE X W me σ2 H3 fun y H4 => ∃ acc, H4 Dl = some (.lst acc) ∧ acc.length < sizeLine ∧ Nx (upd H4 Dl (.lst (acc ++ [y]))) else Nx H3) := by
  have hz' : src.items.length ≤ sizeLine := of_decide_eq_true hz
  have e0 := lcK_eq (ok := src.ok) (g := g) (tt := tt) (me := me) (env0 := wipeE env vs) (k := k) (xs := src.items) (acc := []) (s := c0.s)
  simp only [List.nil_append] at e0
  rw [show (fun ds s' => k ds s') = k from rfl] at e0
  rw [e0] at h
  let St := fun (i : Nat) (H : Hp) (xs : List D) => ∃ c accD accV, c.H = H ∧ Stp c0 c ∧ Rel (yx X) c ∧ c.H Dl = some (.lst accV) ∧ ¬ c.Own Dl ∧ rds (yx X) c accD accV ∧ accD.length ≤ i ∧ RE (yx X) c (wipeE env vs) (wipe σ vs) ∧
    Post (yx X) (rd (yx X)) WE c0 (lcK src.ok g tt me (wipeE env vs) k xs accD c.s) Qf
  refine ⟨fun i m H => i ≤ src.items.length ∧ m = src.items.length - i ∧ St i H (src.items.drop i),
    ⟨_, Nat.zero_le _, rfl, c0.at Dl (.lst []), [], [], rfl, Stp.at nD, r.at nD, upd_same, r.freshOwn nD, .nil, Nat.le_refl _, ((re.wipe vs).step r (Stp.at nD)), by simpa [Cf.at] using h⟩, ?_⟩
  rintro i m H ⟨hi, rfl, c, accD, accV, rfl, st, rc, hD, nO, qa, la, rew, h⟩
  by_cases hlt : i < src.items.length
  · right
    rw [List.drop_eq_getElem_cons hlt] at h
    simp only [lcK] at h
    split at h
    · rename_i ok
      refine ⟨rs.go c i st rc ok hlt, fun H' => St (i + 1) H' (src.items.drop (i + 1)), fun H' hs => ⟨_, by omega, hlt, rfl, hs⟩, fun v H' y => ?_⟩
      obtain ⟨c1, rfl, e1, s1, r1, q1⟩ := rs.yld c i _ v H' st rc ok (List.getElem?_eq_getElem hlt) y
      have keepD : ∀ {c2 : Cf}, Stp c c2 → c2.H Dl = some (.lst accV) ∧ ¬ c2.Own Dl := fun {c2} s => ⟨s.ext Dl _ hD nO, fun z => by
        rcases s.own Dl z with z | z
        · exact nO z
        · rw [hD] at z; cases z⟩
      rw [← e1] at h
      refine tg σ _ c1 _ v WE _ (rew.step rc s1) r1 q1 (h.bindN fun env2 σ2 c2 s2 r2 re2 h2 => ⟨env2, c2, rfl, re2, r2, h2.bindN fun b b' c3 s3 r3 q3 h3 => ?_⟩)
      cases q3
      have s03 := (s1.trans s2).trans s3
      cases b with
      | true =>
        refine iteT ⟨env2, c3, rfl, re2.step r2 s3, r3, ?_⟩
        simp only [if_true] at h3
        refine h3.bindN fun d u c4 s4 r4 q4 h4 => ?_
        have s04 := s03.trans s4
        obtain ⟨hD4, nO4⟩ := keepD s04
        have la4 : accV.length < sizeLine := by rw [← Paired.length qa]; omega
        refine ⟨accV, hD4, la4, ?_⟩
        have r5 := r4.poke (u' := .lst (accV ++ [u])) hD4 trivial nO4
        have st5 := (st.trans s04).poke (a := Dl) (u' := .lst (accV ++ [u])) (.inl nD)
        have stay5 : Stay c4.H (upd c4.H Dl (.lst (accV ++ [u]))) := fun a => by
          refine ⟨fun xs e => ?_, fun o w e => ?_⟩
          · rw [upd_ne]
            · exact e
            · intro z; subst z; rw [hD4] at e; cases e
          · rw [upd_ne]
            · exact e
            · intro z; subst z; rw [hD4] at e; cases e
        refine ⟨{ c4 with H := upd c4.H Dl (.lst (accV ++ [u])) }, accD ++ [d], accV ++ [u], rfl, st5, r5, upd_same, nO4, ?_, by simp; omega, ?_, h4⟩
        · have qa4 := RDs.step rc s04 qa
          have app : ∀ {l1 l2 : List D} {m1 m2 : List V} {F : D → V → Prop}, Paired F l1 m1 → Paired F l2 m2 → Paired F (l1 ++ l2) (m1 ++ m2) := by
            intro l1 l2 m1 m2 F p1 p2
            induction p1 with
            | nil => exact p2
            | cons q t ih => exact .cons q ih
          exact RDs.up (fun _ _ z => z) (fun _ _ z => z) stay5 (app qa4 (.cons q4 .nil))
        · exact ⟨rew.1.trans (by simp), fun j d' e => let ⟨w, e1, z⟩ := (rew.step rc s04).2 j d' e; ⟨w, e1, z.up (fun _ _ y => y) (fun _ _ y => y) stay5⟩⟩
      | false =>
        refine iteF ?_
        simp only [Bool.false_eq_true, if_false] at h3
        obtain ⟨hD3, nO3⟩ := keepD s03
        exact ⟨c3, accD, accV, rfl, st.trans s03, r3, hD3, nO3, RDs.step rc s03 qa, by omega, rew.step rc s03, h3⟩
    · exact h.elim
  · left
    have e : i = src.items.length := by omega
    subst e
    rw [List.drop_length] at h
    simp only [lcK] at h
    split at h
    · rename_i ok
      exact ⟨rs.stop c st rc ok, fin c accD accV st rc hD nO qa h⟩
    · exact h.elim
/-- the new list frozen -/
def kFrz : List D → S → R D := fun ds s => match allP ds with
  | some ps => .ok (.p (.list ps)) s
  | none => .bad
/-- the new list an own one -/
def kOwn : List D → S → R D := fun ds s => .ok (.ref s.g.length) { s with g := s.g ++ [some (.lst ds)] }
section
variable {X : Cx} {W : WX} {pos : Pos}
theorem tLc_own {wi : TI} {mi : MI} {t : TG} {g : MG} {tt : MT} {me : ME} {vs : List Nat} (tg : TgOk (yx X) t g vs) {σ : L2.St} {H : Hp} {Q : VK} (h : LE X W (mLc mi vs g tt me kOwn) σ H Q) :
    tLc (LI X W mi) t (LT X wNo tt) (LE X wNo me) vs σ H Q := by
  obtain ⟨env, c, e, re, r, h⟩ := h
  refine ⟨env, c, e, re, r, h.bind fun src J c1 s1 r1 rs h1 => fun Dl nD => ?_⟩
  split at h1
  · rename_i hz
    refine lc_turns rs tg (re.step r s1) r1 nD hz h1 fun c2 ds us st r2 hD nO qd h2 => ?_
    have hg : (c2.m ++ [Dl])[c2.s.g.length]? = some Dl := by rw [← r2.gl]; simp
    exact h2 (.ref Dl) (c2.adopt Dl (.lst ds)) rfl (st.adopt r2 nD) (r2.adopt nO ⟨us, hD, RDs.up (fun i a e => get_app e) (fun _ _ z => z) (fun a => ⟨fun _ z => z, fun _ _ z => z⟩) qd⟩) ⟨Dl, hg, rfl⟩
  · exact h1.elim
theorem tLc_frz {wi : TI} {mi : MI} {t : TG} {g : MG} {tt : MT} {me : ME} {vs : List Nat} (tg : TgOk (yx X) t g vs) {σ : L2.St} {H : Hp} {Q : VK} (h : LE X W (mLc mi vs g tt me kFrz) σ H Q) :
    tLc (LI X W mi) t (LT X wNo tt) (LE X wNo me) vs σ H fun v H' => FZ (Q v) H' := by
  obtain ⟨env, c, e, re, r, h⟩ := h
  refine ⟨env, c, e, re, r, h.bind fun src J c1 s1 r1 rs h1 => fun Dl nD => ?_⟩
  split at h1
  · rename_i hz
    refine lc_turns (W := wNo) (Q := fun v H' => FZ (Q v) H') rs tg (re.step r s1) r1 nD hz h1 fun c2 ds us st r2 hD nO qd h2 => ?_
    unfold kFrz at h2
    cases ea : allP ds with
    | none => rw [ea] at h2; exact h2.elim
    | some ps =>
      rw [ea] at h2
      refine .one Dl (.lst us) hD trivial fun o => .done ?_
      have stay : Stay c2.H (upd c2.H Dl (.frz o (.lst us))) := fun a => by
        refine ⟨fun xs e => ?_, fun o w e => ?_⟩
        · rw [upd_ne]
          · exact e
          · intro z; subst z; rw [hD] at e; cases e
        · rw [upd_ne]
          · exact e
          · intro z; subst z; rw [hD] at e; cases e
      refine h2 (.ref Dl) { c2 with H := upd c2.H Dl (.frz o (.lst us)) } rfl (st.poke (.inl nD)) (r2.poke hD trivial nO) ?_
      show RP X.K (upd c2.H Dl (.frz o (.lst us))) (.list ps) (.ref Dl)
      simp only [RP]
      exact ⟨Dl, us, rfl, .inl ⟨o, upd_same⟩, RPs.stay stay (allP_ok qd ea)⟩
  · exact h1.elim
/-- the tests of a comprehension -/
theorem c_no {X : Cx} : PTs X [] (LT X wNo mYes) := ⟨fun pins s σ H Q I ⟨env, c, e, re, r, h⟩ => pts_nil.run pins s σ H Q I (by subst e; exact Post.here (Y := yx X) (RA := rb) (a := true) h r rfl)⟩
theorem c_if {X : Cx} {e : Expr} {mt : MT} (h : PT X e (LT X wNo mt)) : PTs X [e] (LT X wNo mt) := pts_one h
variable {elt tg iter : Expr} {ifs : List Expr} {scope : Scope} {own : List (Str × Nat)} {mi : MI} {t : TG} {g : MG} {tt : MT} {me : ME}
theorem e_lcO (hc : X.calm = true) (hN : X.N.Nodup) (hi : PI X tg iter (LI X W mi)) (ok : BlkOk X.N X.env.scope scope own) (tk : TgOk (yx X) t g (own.map (·.2)))
    (hg : ∀ (s : Shared) (H : Hp) (C : Addr) (cl : List (Str × Addr)) (fp : List Addr), PG (X.blk s H scope (compEnvC scope cl C X.env) fp) tg t)
    (ht : ∀ (s : Shared) (H : Hp) (C : Addr) (cl : List (Str × Addr)) (fp : List Addr), PTs (X.blk s H scope (compEnvC scope cl C X.env) fp) ifs (LT (X.blk s H scope (compEnvC scope cl C X.env) fp) wNo tt))
    (he : ∀ (s : Shared) (H : Hp) (C : Addr) (cl : List (Str × Addr)) (fp : List Addr), PE (X.blk s H scope (compEnvC scope cl C X.env) fp) elt (LE (X.blk s H scope (compEnvC scope cl C X.env) fp) wNo me)) (hs : ∀ x, foldedSetIterable iter X.env x = pure x := by intro _; rfl) :
    PE X (.ListComp elt [⟨tg, iter, ifs, 0⟩] scope pos) (LE X W (mLc mi (own.map (·.2)) g tt me kOwn)) :=
  (pe_lc hc hN hi ok hg ht he hs).imp fun σ H Q h => tLc_own (wi := LI X W mi) tk h
theorem e_lcF (hc : X.calm = true) (hN : X.N.Nodup) (hi : PI X tg iter (LI X W mi)) (ok : BlkOk X.N X.env.scope scope own) (tk : TgOk (yx X) t g (own.map (·.2)))
    (hg : ∀ (s : Shared) (H : Hp) (C : Addr) (cl : List (Str × Addr)) (fp : List Addr), PG (X.blk s H scope (compEnvC scope cl C X.env) fp) tg t)
    (ht : ∀ (s : Shared) (H : Hp) (C : Addr) (cl : List (Str × Addr)) (fp : List Addr), PTs (X.blk s H scope (compEnvC scope cl C X.env) fp) ifs (LT (X.blk s H scope (compEnvC scope cl C X.env) fp) wNo tt))
    (he : ∀ (s : Shared) (H : Hp) (C : Addr) (cl : List (Str × Addr)) (fp : List Addr), PE (X.blk s H scope (compEnvC scope cl C X.env) fp) elt (LE (X.blk s H scope (compEnvC scope cl C X.env) fp) wNo me)) (hs : ∀ x, foldedSetIterable iter X.env x = pure x := by intro _; rfl) :
    PE X (.ListComp elt [⟨tg, iter, ifs, 0⟩] scope pos) (LE X W (mLc mi (own.map (·.2)) g tt me kFrz)) :=
  ((pe_lc hc hN hi ok hg ht he hs).fz).imp fun σ H Q h => tLc_frz (wi := LI X W mi) tk h
/-- x = [..] on one line, x a local: an own list -/
theorem s_lcO {i : Nat} {y : Str} {py spos : Pos} (hc : X.calm = true) (hN : X.N.Nodup) (hy : X.N[i]? = some y) (hyl : X.env.scope.names.lookup y = some .local)
    (hsw : swapsWith (.ListComp elt [⟨tg, iter, ifs, 0⟩] scope pos) (some (.Name y py)) spos.line X.env = pure true) (hi : PI X tg iter (LI X W mi)) (ok : BlkOk X.N X.env.scope scope own) (tk : TgOk (yx X) t g (own.map (·.2)))
    (hg : ∀ (s : Shared) (H : Hp) (C : Addr) (cl : List (Str × Addr)) (fp : List Addr), PG (X.blk s H scope (compEnvC scope cl C X.env) fp) tg t)
    (ht : ∀ (s : Shared) (H : Hp) (C : Addr) (cl : List (Str × Addr)) (fp : List Addr), PTs (X.blk s H scope (compEnvC scope cl C X.env) fp) ifs (LT (X.blk s H scope (compEnvC scope cl C X.env) fp) wNo tt))
    (he : ∀ (s : Shared) (H : Hp) (C : Addr) (cl : List (Str × Addr)) (fp : List Addr), PE (X.blk s H scope (compEnvC scope cl C X.env) fp) elt (LE (X.blk s H scope (compEnvC scope cl C X.env) fp) wNo me)) (hs : ∀ x, foldedSetIterable iter X.env x = pure x := by intro _; rfl) :
    PS X (.Assign [.Name y py] (.ListComp elt [⟨tg, iter, ifs, 0⟩] scope pos) spos) (LS X W (sSet i (mLc mi (own.map (·.2)) g tt me kOwn))) :=
  (ps_setLc hc hN hy hyl hsw hi ok hg ht he hs).imp fun D σ H ⟨env, c, e, re, r, h⟩ =>
    tLc_own (wi := LI X W mi) tk ⟨env, c, e, re, r, h.bind (RA := rd (yx X)) re r fun d v c1 s1 r1 q1 h1 => h1 _ c1 rfl Stp.refl r1 ((re.step r s1).set i q1)⟩
end
end Mp

/-! MP, part G: operators and built-ins by values. -/
namespace Mp
open PySem PySem.Spec PyProof.Rows L2

/-- pure data in, pure data out -/
def ret1 (o : Option PyData) (s : S) : R D := match o with
  | some x => .ok (.p x) s
  | none => .bad
def pp2 (f : PyData → PyData → Option PyData) : D → D → S → R D := fun d1 d2 s => match d1, d2 with
  | .p a, .p b => ret1 (f a b) s
  | _, _ => .bad
def pp1 (f : PyData → Option PyData) : D → S → R D := fun d s => match d with
  | .p a => ret1 (f a) s
  | _ => .bad
@[simp] theorem ret1_some {x : PyData} {s : S} : ret1 (some x) s = .ok (.p x) s := rfl
@[simp] theorem ret1_none {s : S} : ret1 none s = .bad := rfl
/-- pure operators: what must be shown -/
theorem link_pp2 {Y : Md} {f : PyData → PyData → Option PyData} {r : R2} (h : ∀ (WE : Value → Option Addr → Hp → Prop) (c : Cf) (a b x : PyData) (v1 v2 : V) (Q : VK), Rel Y c → RP Y.K c.H a v1 → RP Y.K c.H b v2 → f a b = some x → Post Y (rd Y) WE c (.ok (.p x) c.s) Q → r v1 v2 c.H Q) : Link2 Y (pp2 f) r := by
  intro WE c d1 d2 v1 v2 Q rr q1 q2 hp
  unfold pp2 at hp
  split at hp
  · rename_i a b
    cases e : f a b with
    | none => rw [e] at hp; exact hp.elim
    | some x => rw [e] at hp; exact h WE c a b x v1 v2 Q rr q1 q2 e hp
  · exact hp.elim
theorem link_pp1 {Y : Md} {f : PyData → Option PyData} {r : V → Hp → VK → Prop} (h : ∀ (WE : Value → Option Addr → Hp → Prop) (c : Cf) (a x : PyData) (v1 : V) (Q : VK), Rel Y c → RP Y.K c.H a v1 → f a = some x → Post Y (rd Y) WE c (.ok (.p x) c.s) Q → r v1 c.H Q) : Link1 Y (pp1 f) r := by
  intro WE c d1 v1 Q rr q1 hp
  unfold pp1 at hp
  split at hp
  · rename_i a
    cases e : f a with
    | none => rw [e] at hp; exact hp.elim
    | some x => rw [e] at hp; exact h WE c a x v1 Q rr q1 e hp
  · exact hp.elim
theorem Post.p {Y : Md} {WE : Value → Option Addr → Hp → Prop} {c : Cf} {x : PyData} {v : V} {Q : VK} (h : Post Y (rd Y) WE c (.ok (.p x) c.s) Q) (r : Rel Y c) (q : RP Y.K c.H x v) : Q v c.H := Post.here (RA := rd Y) (a := D.p x) h r q
theorem rp_int {K : PySem.W.Frag} {H : Hp} {i : Int} {v : V} (h : RP K H (.int i) v) : v = .int i := by simpa [RP] using h
theorem rp_bool {K : PySem.W.Frag} {H : Hp} {i : Bool} {v : V} (h : RP K H (.bool i) v) : v = .bl i := by simpa [RP] using h
theorem rp_str {K : PySem.W.Frag} {H : Hp} {i : Str} {v : V} (h : RP K H (.str i) v) : v = .str i := by simpa [RP] using h
theorem rp_none {K : PySem.W.Frag} {H : Hp} {v : V} (h : RP K H .none v) : v = .non := by simpa [RP] using h
theorem rp_tup {K : PySem.W.Frag} {H : Hp} {ps : List PyData} {v : V} (h : RP K H (.tuple ps) v) : ∃ a vs, v = .ref a ∧ SqT K H a vs ∧ RPs K H ps vs := by simpa only [RP] using h
theorem rp_lst {K : PySem.W.Frag} {H : Hp} {ps : List PyData} {v : V} (h : RP K H (.list ps) v) : ∃ a vs, v = .ref a ∧ FzL K H a vs ∧ RPs K H ps vs := by simpa only [RP] using h
theorem rd_int {Y : Md} {c : Cf} {i : Int} {v : V} (h : rd Y c (.p (.int i)) v) : v = .int i := rp_int (K := Y.K) (H := c.H) h
theorem rd_bool {Y : Md} {c : Cf} {i : Bool} {v : V} (h : rd Y c (.p (.bool i)) v) : v = .bl i := rp_bool (K := Y.K) (H := c.H) h
theorem rd_str {Y : Md} {c : Cf} {i : Str} {v : V} (h : rd Y c (.p (.str i)) v) : v = .str i := rp_str (K := Y.K) (H := c.H) h
theorem rd_none {Y : Md} {c : Cf} {v : V} (h : rd Y c (.p .none) v) : v = .non := rp_none (K := Y.K) (H := c.H) h
theorem rd_tup {Y : Md} {c : Cf} {ps : List PyData} {v : V} (h : rd Y c (.p (.tuple ps)) v) : ∃ a vs, v = .ref a ∧ SqT Y.K c.H a vs ∧ RPs Y.K c.H ps vs := rp_tup (K := Y.K) (H := c.H) h
theorem rd_lst {Y : Md} {c : Cf} {ps : List PyData} {v : V} (h : rd Y c (.p (.list ps)) v) : ∃ a vs, v = .ref a ∧ FzL Y.K c.H a vs ∧ RPs Y.K c.H ps vs := rp_lst (K := Y.K) (H := c.H) h
theorem mk_int {K : PySem.W.Frag} {H : Hp} {i : Int} : RP K H (.int i) (.int i) := by simp [RP]
theorem mk_bool {K : PySem.W.Frag} {H : Hp} {i : Bool} : RP K H (.bool i) (.bl i) := by simp [RP]
theorem mk_str {K : PySem.W.Frag} {H : Hp} {i : Str} : RP K H (.str i) (.str i) := by simp [RP]
theorem mk_none {K : PySem.W.Frag} {H : Hp} : RP K H .none .non := by simp [RP]
theorem RPs.app {K : PySem.W.Frag} {H : Hp} : ∀ {ps qs : List PyData} {vs us : List V}, RPs K H ps vs → RPs K H qs us → RPs K H (ps ++ qs) (vs ++ us)
  | [], _, _, _, h, h2 => by simp only [RPs] at h; subst h; exact h2
  | p :: ps, _, _, _, h, h2 => by
    simp only [RPs] at h
    obtain ⟨v, r, rfl, h1, h3⟩ := h
    show RPs K H (p :: (ps ++ _)) _
    simp only [RPs]
    exact ⟨v, r ++ _, rfl, h1, RPs.app h3 h2⟩

/-! ### arithmetic -/
def iAdd : PyData → PyData → Option PyData
  | .int i, .int j => some (.int (i + j))
  | .str x, .str y => if sizeOk (x.length + y.length) then some (.str (x ++ y)) else none
  | _, _ => none
def iSub : PyData → PyData → Option PyData
  | .int i, .int j => some (.int (i - j))
  | _, _ => none
theorem o_sub {X : Cx} : Op2 X (binaryOp .Sub) (pp2 iSub) := ⟨_, op_sub, link_pp2 fun WE c a b x v1 v2 Q rr q1 q2 e h => by
  unfold iSub at e
  split at e
  · cases e
    exact ⟨_, _, rp_int q1, rp_int q2, h.p rr mk_int⟩
  · cases e⟩
theorem o_isub {X : Cx} : Op2 X (inplaceOp .Sub) (pp2 iSub) := ⟨_, iop_sub, link_pp2 fun WE c a b x v1 v2 Q rr q1 q2 e h => by
  unfold iSub at e
  split at e
  · cases e
    exact ⟨_, _, rp_int q1, rp_int q2, h.p rr mk_int⟩
  · cases e⟩
theorem o_addP {X : Cx} : Op2 X (binaryOp .Add) (pp2 iAdd) := ⟨_, op_add.or op_add_str, link_pp2 fun WE c a b x v1 v2 Q rr q1 q2 e h => by
  unfold iAdd at e
  split at e
  · cases e
    exact .inl ⟨_, _, rp_int q1, rp_int q2, h.p rr mk_int⟩
  · split at e
    · rename_i hz
      cases e
      exact .inr ⟨_, _, rp_str q1, rp_str q2, of_decide_eq_true hz, h.p rr mk_str⟩
    · cases e
  · cases e⟩
theorem o_iaddP {X : Cx} : Op2 X (inplaceOp .Add) (pp2 iAdd) := ⟨_, iop_add.or iop_add_str, link_pp2 fun WE c a b x v1 v2 Q rr q1 q2 e h => by
  unfold iAdd at e
  split at e
  · cases e
    exact .inl ⟨_, _, rp_int q1, rp_int q2, h.p rr mk_int⟩
  · split at e
    · rename_i hz
      cases e
      exact .inr ⟨_, _, rp_str q1, rp_str q2, of_decide_eq_true hz, h.p rr mk_str⟩
    · cases e
  · cases e⟩
/-- a factor below 2 ^ 64 -/
theorem mulOk_ex : ∃ f : Int → Int → Bool, f = fun i j => decide ((-(2 ^ 64) < i ∧ i < 2 ^ 64) ∨ (-(2 ^ 64) < j ∧ j < 2 ^ 64)) := ⟨_, rfl⟩
/-- closed to the kernel's reductions -/
noncomputable def mulOk : Int → Int → Bool := Classical.choose mulOk_ex
theorem mulOk_seal : mulOk = fun i j => decide ((-(2 ^ 64) < i ∧ i < 2 ^ 64) ∨ (-(2 ^ 64) < j ∧ j < 2 ^ 64)) := Classical.choose_spec mulOk_ex
noncomputable def iMul : PyData → PyData → Option PyData
  | .int i, .int j => if mulOk i j then some (.int (i * j)) else none
  | _, _ => none
theorem o_mul {X : Cx} : Op2 X (binaryOp .Mult) (pp2 iMul) := ⟨_, op_mul, link_pp2 fun WE c a b x v1 v2 Q rr q1 q2 e h => by
  unfold iMul at e
  split at e
  · split at e
    · rename_i hz
      cases e
      exact ⟨_, _, rp_int q1, rp_int q2, by rw [mulOk_seal] at hz; exact (of_decide_eq_true hz :), h.p rr mk_int⟩
    · cases e
  · cases e⟩
def iMod : PyData → PyData → Option PyData
  | .int i, .int j => if 0 < j then some (.int (i % j)) else none
  | _, _ => none
theorem o_mod {X : Cx} : Op2 X (binaryOp .Mod) (pp2 iMod) := ⟨_, op_mod, link_pp2 fun WE c a b x v1 v2 Q rr q1 q2 e h => by
  unfold iMod at e
  split at e
  · split at e
    · rename_i hz
      cases e
      exact ⟨_, _, rp_int q1, rp_int q2, hz, h.p rr mk_int⟩
    · cases e
  · cases e⟩
theorem divOk_ex : ∃ f : Int → Bool, f = fun j => decide (0 < j ∧ j < 1073741824) := ⟨_, rfl⟩
/-- closed to the kernel's reductions -/
noncomputable def divOk : Int → Bool := Classical.choose divOk_ex
theorem divOk_seal : divOk = fun j => decide (0 < j ∧ j < 1073741824) := Classical.choose_spec divOk_ex
noncomputable def iDiv : PyData → PyData → Option PyData
  | .int i, .int j => if divOk j then some (.int (i / j)) else none
  | _, _ => none
theorem o_div {X : Cx} : Op2 X (binaryOp .FloorDiv) (pp2 iDiv) := ⟨_, op_fdiv, link_pp2 fun WE c a b x v1 v2 Q rr q1 q2 e h => by
  unfold iDiv at e
  split at e
  · split at e
    · rename_i hz
      cases e
      exact ⟨_, _, rp_int q1, rp_int q2, by rw [divOk_seal] at hz; exact (of_decide_eq_true hz :), h.p rr mk_int⟩
    · cases e
  · cases e⟩
theorem powOk_ex : ∃ f : Int → Int → Bool, f = fun i j => decide (0 ≤ j ∧ j ≤ 1000000 ∧ i.natAbs < 2 ^ 64) := ⟨_, rfl⟩
/-- closed to the kernel's reductions -/
noncomputable def powOk : Int → Int → Bool := Classical.choose powOk_ex
theorem powOk_seal : powOk = fun i j => decide (0 ≤ j ∧ j ≤ 1000000 ∧ i.natAbs < 2 ^ 64) := Classical.choose_spec powOk_ex
noncomputable def iPow : PyData → PyData → Option PyData
  | .int i, .int j => if powOk i j then some (.int (i ^ j.toNat)) else none
  | _, _ => none
theorem o_pow {X : Cx} : Op2 X (binaryOp .Pow) (pp2 iPow) := ⟨_, op_pow, link_pp2 fun WE c a b x v1 v2 Q rr q1 q2 e h => by
  unfold iPow at e
  split at e
  · split at e
    · rename_i hz
      cases e
      exact ⟨_, _, rp_int q1, rp_int q2, by rw [powOk_seal] at hz; exact (of_decide_eq_true hz :), h.p rr mk_int⟩
    · cases e
  · cases e⟩
noncomputable def iShl : PyData → PyData → Option PyData
  | .int i, .int j => if powOk i j then some (.int (i * 2 ^ j.toNat)) else none
  | _, _ => none
theorem o_shl {X : Cx} : Op2 X (binaryOp .LShift) (pp2 iShl) := ⟨_, op_shl, link_pp2 fun WE c a b x v1 v2 Q rr q1 q2 e h => by
  unfold iShl at e
  split at e
  · split at e
    · rename_i hz
      cases e
      exact ⟨_, _, rp_int q1, rp_int q2, by rw [powOk_seal] at hz; exact (of_decide_eq_true hz :), h.p rr mk_int⟩
    · cases e
  · cases e⟩
def iShr : PyData → PyData → Option PyData
  | .int i, .int j => if 0 ≤ j then some (.int (i / 2 ^ j.toNat)) else none
  | _, _ => none
theorem o_shr {X : Cx} : Op2 X (binaryOp .RShift) (pp2 iShr) := ⟨_, op_shr, link_pp2 fun WE c a b x v1 v2 Q rr q1 q2 e h => by
  unfold iShr at e
  split at e
  · split at e
    · rename_i hz
      cases e
      exact ⟨_, _, rp_int q1, rp_int q2, hz, h.p rr mk_int⟩
    · cases e
  · cases e⟩
def iNeg : PyData → Option PyData
  | .int i => some (.int (-i))
  | _ => none
theorem o_neg {X : Cx} : Op1 X (unaryOp .USub) (pp1 iNeg) := ⟨_, un_neg, link_pp1 fun WE c a x v1 Q rr q1 e h => by
  unfold iNeg at e
  split at e
  · cases e
    exact ⟨_, rp_int q1, h.p rr mk_int⟩
  · cases e⟩

/-! ### comparisons -/
def iCmp (f : Int → Int → Bool) : PyData → PyData → Option PyData
  | .int i, .int j => some (.bool (f i j))
  | _, _ => none
theorem link_cmp {Y : Md} {f : Int → Int → Bool} : Link2 Y (pp2 (iCmp f)) (rI0 fun i j => .bl (f i j)) := link_pp2 fun WE c a b x v1 v2 Q rr q1 q2 e h => by
  unfold iCmp at e
  split at e
  · cases e
    exact ⟨_, _, rp_int q1, rp_int q2, h.p rr mk_bool⟩
  · cases e
theorem o_lt {X : Cx} : Op2 X (compareOp .Lt) (pp2 (iCmp fun i j => decide (i < j))) := ⟨_, op_lt, link_cmp⟩
theorem o_le {X : Cx} : Op2 X (compareOp .LtE) (pp2 (iCmp fun i j => decide (i ≤ j))) := ⟨_, op_le, link_cmp⟩
theorem o_gt {X : Cx} : Op2 X (compareOp .Gt) (pp2 (iCmp fun i j => decide (j < i))) := ⟨_, op_gt, link_cmp⟩
theorem o_ge {X : Cx} : Op2 X (compareOp .GtE) (pp2 (iCmp fun i j => decide (j ≤ i))) := ⟨_, op_ge, link_cmp⟩
/-- two texts of any signs -/
def iEqS (a b : PyData) : Option PyData := match a, b with
  | .str x, .str y => some (.bool (decide (x = y)))
  | _, _ => none
def iNeS (a b : PyData) : Option PyData := match a, b with
  | .str x, .str y => some (.bool (!decide (x = y)))
  | _, _ => none
def iEq (a b : PyData) : Option PyData := if SeqAt.shaped a && SeqAt.shaped b then some (.bool (PyData.eqv a b)) else iEqS a b
def iNe (a b : PyData) : Option PyData := if SeqAt.shaped a && SeqAt.shaped b then some (.bool (!PyData.eqv a b)) else iNeS a b
mutual
theorem RP.dp {K : PySem.W.Frag} {H : Hp} : ∀ {p : PyData} {v : V}, p.canLay0 = true → RP K H p v → Dp K H v p
  | .none, _, _, h => by rw [rp_none h]; exact .non
  | .bool b, _, _, h => by rw [rp_bool h]; exact .bl b
  | .int b, _, _, h => by rw [rp_int h]; exact .int b
  | .str b, _, _, h => by rw [rp_str h]; exact .str b
  | .tuple ps, _, l, h => by
    obtain ⟨a, vs, rfl, h1, h2⟩ := rp_tup h
    exact .tup h1 (RPs.dp (by simpa [PyData.canLay0] using l) h2)
  | .list ps, _, l, h => by
    obtain ⟨a, vs, rfl, h1, h2⟩ := rp_lst h
    exact .lst h1.sq (RPs.dp (by simpa [PyData.canLay0] using l) h2)
  | .dict kvs, _, l, h => by simp [PyData.canLay0] at l
theorem RPs.dp {K : PySem.W.Frag} {H : Hp} : ∀ {ps : List PyData} {vs : List V}, PyData.canLayAll0 ps = true → RPs K H ps vs → DpAll K H vs ps
  | [], _, _, h => by simp only [RPs] at h; subst h; exact .nil
  | p :: ps, _, l, h => by
    simp only [RPs] at h
    obtain ⟨v, r, rfl, h1, h2⟩ := h
    have l2 : p.canLay0 = true ∧ PyData.canLayAll0 ps = true := by simpa [PyData.canLayAll0] using l
    exact .cons (RP.dp l2.1 h1) (RPs.dp l2.2 h2)
end
theorem shaped_can {d : PyData} (h : SeqAt.shaped d = true) : d.canLay0 = true := SeqAt.canLay_of_shaped h
theorem o_eq {X : Cx} (hu : X.A.units + 64 < cLine) : Op2 X (compareOp .Eq) (pp2 iEq) := ⟨_, (op_eqD hu).or op_eq, link_pp2 fun WE c a b x v1 v2 Q rr q1 q2 e h => by
  unfold iEq at e
  split at e
  · rename_i hz
    cases e
    have hz2 := Bool.and_eq_true_iff.mp hz
    exact .inl ⟨a, b, RP.dp (shaped_can hz2.1) q1, RP.dp (shaped_can hz2.2) q2, hz2.1, hz2.2, h.p rr mk_bool⟩
  · unfold iEqS at e
    split at e
    · rename_i x y _
      cases e
      rw [rp_str q1, rp_str q2]
      have e2 : decide (V.str x = V.str y) = decide (x = y) := by simp
      exact .inr ⟨rfl, by rw [e2]; exact h.p rr mk_bool⟩
    · cases e⟩
theorem o_ne {X : Cx} (hu : X.A.units + 64 < cLine) : Op2 X (compareOp .NotEq) (pp2 iNe) := ⟨_, (op_neD hu).or op_ne, link_pp2 fun WE c a b x v1 v2 Q rr q1 q2 e h => by
  unfold iNe at e
  split at e
  · rename_i hz
    cases e
    have hz2 := Bool.and_eq_true_iff.mp hz
    exact .inl ⟨a, b, RP.dp (shaped_can hz2.1) q1, RP.dp (shaped_can hz2.2) q2, hz2.1, hz2.2, h.p rr mk_bool⟩
  · unfold iNeS at e
    split at e
    · rename_i x y _
      cases e
      rw [rp_str q1, rp_str q2]
      have e2 : decide (V.str x = V.str y) = decide (x = y) := by simp
      exact .inr ⟨rfl, by rw [e2]; exact h.p rr mk_bool⟩
    · cases e⟩
/-- is None, is not None -/
def isN : D → Bool
  | .p .none => true
  | _ => false
def dIs (k : Bool) : D → D → S → R D := fun d1 d2 s => match d2 with
  | .p .none => .ok (.p (.bool (isN d1 == k))) s
  | .p (.bool b) => (match d1 with
    | .p (.bool a) => .ok (.p (.bool (decide (a = b) == k))) s
    | _ => .bad)
  | _ => .bad
theorem isN_ok {Y : Md} {m o : List Addr} {H : Hp} {d : D} {v : V} (h : RD Y m o H d v) : isN d = decide (v = .non) := by
  cases d with
  | p x =>
    have h : RP Y.K H x v := h
    cases x with
    | none => rw [rp_none h]; rfl
    | bool b => rw [rp_bool h]; rfl
    | int b => rw [rp_int h]; rfl
    | str b => rw [rp_str h]; rfl
    | tuple ps => obtain ⟨a, vs, rfl, _⟩ := rp_tup h; rfl
    | list ps => obtain ⟨a, vs, rfl, _⟩ := rp_lst h; rfl
    | dict kvs => simp only [RP] at h; obtain ⟨a, l, rfl, _⟩ := h; rfl
  | ref i => obtain ⟨a, _, rfl⟩ := h; rfl
  | well i => obtain ⟨a, _, rfl⟩ := h; rfl
  | fn x => obtain ⟨a, rfl, _⟩ := h; rfl
theorem o_is {X : Cx} : Op2 X (compareOp .Is) (dIs true) := ⟨_, op_isN.or op_is_bl, fun WE c d1 d2 v1 v2 Q rr q1 q2 h => by
  unfold dIs at h
  split at h
  · refine .inl ⟨rd_none q2, ?_⟩
    rw [← isN_ok q1]
    have := h.p rr mk_bool
    simpa using this
  · split at h
    · rename_i b _ a
      refine .inr ⟨a, b, rd_bool q1, rd_bool q2, ?_⟩
      have := h.p rr mk_bool
      simpa using this
    · exact h.elim
  · exact h.elim⟩
theorem o_isnot {X : Cx} : Op2 X (compareOp .IsNot) (dIs false) := ⟨_, op_notN.or op_isnot_bl, fun WE c d1 d2 v1 v2 Q rr q1 q2 h => by
  unfold dIs at h
  split at h
  · refine .inl ⟨rd_none q2, ?_⟩
    rw [← isN_ok q1]
    have := h.p rr mk_bool
    cases e : isN d1 <;> simpa [e] using this
  · split at h
    · rename_i b _ a
      refine .inr ⟨a, b, rd_bool q1, rd_bool q2, ?_⟩
      have := h.p rr mk_bool
      have e2 : (decide (a = b) == false) = !decide (a = b) := by cases decide (a = b) <;> rfl
      rw [e2] at this
      exact this
    · exact h.elim
  · exact h.elim⟩

/-! ### subscripts -/
/-- the item at an index, from the end if it is below 0 -/
def ixAt {α : Type} (xs : List α) (i : Int) : Option α := (ixN xs.length i).bind fun j => xs[j]?
def dIx : D → D → S → R D := fun d1 d2 s => match d2 with
  | .p (.int i) => (match d1 with
    | .p (.tuple ps) => ret1 (ixAt ps i) s
    | .p (.list ps) => ret1 (ixAt ps i) s
    | .p (.str x) => if sizeOk x.length then (match atI x.cps.toList i with
      | some k => .ok (.p (.str ⟨#[k]⟩)) s
      | none => .bad) else .bad
    | .ref j => (match s.g[j]? with
      | some (some (.lst xs)) => (match ixAt xs i with
        | some d => .ok d s
        | none => .bad)
      | _ => .bad)
    | .well j => (match s.w[j]? with
      | some (some (.lst xs)) => (match ixAt xs i with
        | some (.p x) => .ok (.p x) s
        | _ => .bad)
      | _ => .bad)
    | _ => .bad)
  | _ => .bad
theorem RPs.get {K : PySem.W.Frag} {H : Hp} : ∀ {ps : List PyData} {vs : List V} {i : Nat} {p : PyData}, RPs K H ps vs → ps[i]? = some p → ∃ v, vs[i]? = some v ∧ RP K H p v
  | [], _, _, _, _, e => by simp at e
  | p :: ps, _, i, x, h, e => by
    simp only [RPs] at h
    obtain ⟨v, r, rfl, h1, h2⟩ := h
    cases i with
    | zero => simp at e; subst e; exact ⟨v, by simp, h1⟩
    | succ i => simp at e; obtain ⟨u, e1, q⟩ := RPs.get h2 e; exact ⟨u, by simpa using e1, q⟩
theorem ixAt_rps {K : PySem.W.Frag} {H : Hp} {ps : List PyData} {vs : List V} {i : Int} {p : PyData} (h : RPs K H ps vs) (e : ixAt ps i = some p) : ∃ v, atI vs i = some v ∧ RP K H p v := by
  unfold ixAt at e
  unfold atI
  rw [← h.length]
  cases hj : ixN ps.length i with
  | none => rw [hj] at e; cases e
  | some j => rw [hj] at e; exact h.get e
theorem ixAt_rds {Y : Md} {m o : List Addr} {H : Hp} {ds : List D} {vs : List V} {i : Int} {d : D} (h : RDs Y m o H ds vs) (e : ixAt ds i = some d) : ∃ v, atI vs i = some v ∧ RD Y m o H d v := by
  unfold ixAt at e
  unfold atI
  rw [← Paired.length h]
  cases hj : ixN ds.length i with
  | none => rw [hj] at e; cases e
  | some j => rw [hj] at e; exact Paired.get_ex h e
theorem link_ix {Y : Md} : Link2 Y dIx (rIx Y.K) := by
  intro WE c d1 d2 v1 v2 Q rr q1 q2 h
  unfold dIx at h
  split at h
  · rename_i i
    have e2 := rd_int q2
    split at h
    · rename_i ps
      obtain ⟨a, vs, e1, h1, h2⟩ := rd_tup q1
      cases e : ixAt ps i with
      | none => rw [e] at h; exact h.elim
      | some p =>
        rw [e] at h
        obtain ⟨v, ev, q⟩ := ixAt_rps h2 e
        exact .inr (.inl ⟨a, vs, i, v, e1, e2, h1, ev, h.p rr q⟩)
    · rename_i ps
      obtain ⟨a, vs, e1, h1, h2⟩ := rd_lst q1
      cases e : ixAt ps i with
      | none => rw [e] at h; exact h.elim
      | some p =>
        rw [e] at h
        obtain ⟨v, ev, q⟩ := ixAt_rps h2 e
        exact .inl ⟨a, vs, i, v, e1, e2, h1.sq, ev, h.p rr q⟩
    · rename_i x
      split at h
      · rename_i hz
        split at h
        · rename_i k ek
          exact .inr (.inr ⟨x, i, k, rd_str q1, e2, of_decide_eq_true hz, ek, h.p rr mk_str⟩)
        · exact h.elim
      · exact h.elim
    · rename_i j
      split at h
      · rename_i xs ex
        obtain ⟨a, ea, vs, ev, qs⟩ := rr.g j _ ex
        obtain ⟨a', ea', e1⟩ := q1
        rw [ea] at ea'; cases ea'
        split at h
        · rename_i d ed
          obtain ⟨v, e3, q⟩ := ixAt_rds qs ed
          exact .inl ⟨a, vs, i, v, e1, e2, SqL.of ev, e3, Post.here (RA := rd Y) h rr q⟩
        · exact h.elim
      · exact h.elim
    · rename_i j
      split at h
      · rename_i xs ex
        obtain ⟨a, ea, vs, ev, qs⟩ := rr.w j _ ex
        obtain ⟨a', ea', e1⟩ := q1
        rw [ea] at ea'; cases ea'
        split at h
        · rename_i d ed
          obtain ⟨v, e3, q⟩ := ixAt_rds qs ed
          exact .inl ⟨a, vs, i, v, e1, e2, SqL.of ev, e3, h.p rr q⟩
        · exact h.elim
      · exact h.elim
    · exact h.elim
  · exact h.elim
section
variable {X : Cx} {W : WX} {pos : Pos} {a b : Expr} {ma mb : ME}
theorem e_ix (ha : PE X a (LE X W ma)) (hb : PE X b (LE X W mb)) (hs : PlainIx b := by intro _ _; rfl) : PE X (.Subscript a b pos) (LE X W (mBin dIx ma mb)) := (pe_ix ix_seq ha hb hs).imp fun σ H Q h => tOp_of link_ix h

/-! ### calls of built-ins -/
def LinkC (Y : Md) (f : List D → S → R D) (r : List V → Hp → VK → Prop) : Prop := ∀ WE c ds vs Q, Rel Y c → rds Y c ds vs → Post Y (rd Y) WE c (f ds c.s) Q → r vs c.H Q
def CallX (X : Cx) (u : Value) (f : List D → S → R D) : Prop := ∃ r, CallR X u r ∧ LinkC (yx X) f r
variable {es : List Expr} {ms : MA}
theorem tCB_of {f : List D → S → R D} {r : List V → Hp → VK → Prop} (hl : LinkC (yx X) f r) {σ : L2.St} {H : Hp} {Q : VK} (h : LE X W (mCall f ms) σ H Q) : tCB r (LA X W ms) σ H Q := by
  obtain ⟨env, c, e, re, rr, h⟩ := h
  exact ⟨env, c, e, re, rr, h.bind fun ds vs c1 s1 r1 q1 h1 => hl _ c1 ds vs Q r1 q1 h1⟩
theorem e_bi {id : String} {x : Str} {p : Pos} {e : Expr} {f : List D → S → R D} (h : CallX X (.builtin id) f) (hg : Gl X x) (hm : X.mg x = none) (hv : bootBuiltins x = some (.builtin id)) (ha : PA X (e :: es) (LA X W ms)) (hn : x ≠ "__name__" := by decide) (hdb : (x == ("__debug__" : Str)) = false := by decide)
    (he : starEach (e :: es) X.env = (false, eval e X.env) :: starEach es X.env := by rfl) (hpl : (backTo pos (starEach es X.env)).any (·.1) = false := by rfl) : PE X (.Call (.Name x p) (e :: es) [] pos) (LE X W (mCall f ms)) := by
  obtain ⟨r, hr, hl⟩ := h
  exact (pe_callB hr hg hm hv ha hn hdb he hpl).imp fun σ H Q q => tCB_of hl q
theorem e_ty {T : String} {x : Str} {p : Pos} {e : Expr} {f : List D → S → R D} (h : CallX X (.type T) f) (hg : Gl X x) (hm : X.mg x = none) (hv : bootBuiltins x = some (.type T)) (ha : PA X (e :: es) (LA X W ms)) (hn : x ≠ "__name__" := by decide) (hdb : (x == ("__debug__" : Str)) = false := by decide)
    (he : starEach (e :: es) X.env = (false, eval e X.env) :: starEach es X.env := by rfl) (hpl : (backTo pos (starEach es X.env)).any (·.1) = false := by rfl) : PE X (.Call (.Name x p) (e :: es) [] pos) (LE X W (mCall f ms)) := by
  obtain ⟨r, hr, hl⟩ := h
  exact (pe_callTy hr hg hm hv ha hn hdb he hpl).imp fun σ H Q q => tCB_of hl q
def fLen : List D → S → R D := fun ds s => match ds with
  | [.p (.tuple ps)] => .ok (.p (.int ps.length)) s
  | [.p (.list ps)] => .ok (.p (.int ps.length)) s
  | [.p (.str x)] => if sizeOk x.length then .ok (.p (.int x.length)) s else .bad
  | [.ref j] => (match s.g[j]? with
    | some (some (.lst xs)) => .ok (.p (.int xs.length)) s
    | _ => .bad)
  | _ => .bad
theorem rds1 {Y : Md} {m o : List Addr} {H : Hp} {d : D} {vs : List V} (h : RDs Y m o H [d] vs) : ∃ v, vs = [v] ∧ RD Y m o H d v := by
  cases h with
  | cons q t => cases t; exact ⟨_, rfl, q⟩
theorem rds2 {Y : Md} {m o : List Addr} {H : Hp} {d d' : D} {vs : List V} (h : RDs Y m o H [d, d'] vs) : ∃ v v', vs = [v, v'] ∧ RD Y m o H d v ∧ RD Y m o H d' v' := by
  cases h with
  | cons q t => cases t with
    | cons q2 t => cases t; exact ⟨_, _, rfl, q, q2⟩
theorem b_len : CallX X (.builtin "len") fLen := ⟨_, call_len, fun WE c ds vs Q rr q h => by
  unfold fLen at h
  split at h
  · rename_i ps
    obtain ⟨v, rfl, q1⟩ := rds1 q
    obtain ⟨a, vs, rfl, h1, h2⟩ := rd_tup q1
    exact ⟨_, vs.length, rfl, .inr ⟨vs, h1, rfl⟩, by rw [← h2.length]; exact h.p rr mk_int⟩
  · rename_i ps
    obtain ⟨v, rfl, q1⟩ := rds1 q
    obtain ⟨a, vs, rfl, h1, h2⟩ := rd_lst q1
    exact ⟨_, vs.length, rfl, .inl ⟨vs, h1.sq, rfl⟩, by rw [← h2.length]; exact h.p rr mk_int⟩
  · rename_i x
    obtain ⟨v, rfl, q1⟩ := rds1 q
    split at h
    · rename_i hz
      exact ⟨_, x.length, rfl, by rw [rd_str q1]; exact ⟨of_decide_eq_true hz, rfl⟩, h.p rr mk_int⟩
    · exact h.elim
  · rename_i j
    obtain ⟨v, rfl, q1⟩ := rds1 q
    split at h
    · rename_i xs ex
      obtain ⟨a, ea, vs, ev, qs⟩ := rr.g j _ ex
      obtain ⟨a', ea', rfl⟩ := q1
      rw [ea] at ea'; cases ea'
      exact ⟨_, vs.length, rfl, .inl ⟨vs, SqL.of ev, rfl⟩, by rw [← Paired.length qs]; exact h.p rr mk_int⟩
    · exact h.elim
  · exact h.elim⟩
/-- a list of truths -/
def allB : List PyData → Option (List Bool)
  | [] => some []
  | .bool b :: ps => (allB ps).map (b :: ·)
  | _ :: _ => none
theorem allB_ok {K : PySem.W.Frag} {H : Hp} : ∀ {ps : List PyData} {vs : List V} {bs : List Bool}, RPs K H ps vs → allB ps = some bs → vs = bs.map V.bl
  | [], _, _, h, e => by simp only [RPs] at h; simp [allB] at e; subst h; subst e; rfl
  | p :: ps, _, bs, h, e => by
    simp only [RPs] at h
    obtain ⟨v, r, rfl, h1, h2⟩ := h
    cases p <;> simp only [allB, Option.map_eq_some_iff, reduceCtorEq] at e
    obtain ⟨bs', e1, rfl⟩ := e
    rw [rp_bool h1, allB_ok h2 e1]; rfl
/-- a list or an own list, as data -/
def lstP (d : D) (s : S) : Option (List PyData) := match d with
  | .p (.list ps) => some ps
  | .ref j => (match s.g[j]? with
    | some (some (.lst xs)) => allP xs
    | _ => none)
  | _ => none
theorem lstP_ok {Y : Md} {c : Cf} {d : D} {v : V} {ps : List PyData} (rr : Rel Y c) (q : RD Y c.m c.o c.H d v) (e : lstP d c.s = some ps) : ∃ a vs, v = .ref a ∧ SqL Y.K c.H a vs ∧ RPs Y.K c.H ps vs := by
  unfold lstP at e
  split at e
  · cases e
    obtain ⟨a, vs, rfl, h1, h2⟩ := rd_lst q
    exact ⟨a, vs, rfl, h1.sq, h2⟩
  · rename_i j
    split at e
    · rename_i xs ex
      obtain ⟨a, ea, vs, ev, qs⟩ := rr.g j _ ex
      obtain ⟨a', ea', rfl⟩ := q
      rw [ea] at ea'; cases ea'
      exact ⟨a, vs, rfl, SqL.of ev, allP_ok qs e⟩
    · cases e
  · cases e
def fAll : List D → S → R D := fun ds s => match ds with
  | [d] => (match (lstP d s).bind allB with
    | some bs => .ok (.p (.bool (bs.all id))) s
    | none => .bad)
  | _ => .bad
def fAny : List D → S → R D := fun ds s => match ds with
  | [d] => (match (lstP d s).bind allB with
    | some bs => .ok (.p (.bool (bs.any id))) s
    | none => .bad)
  | _ => .bad
theorem b_all (hc : X.calm = true) : CallX X (.builtin "all") fAll := ⟨_, cr_all hc, fun WE c ds vs Q rr q h => by
  unfold fAll at h
  split at h
  · rename_i d
    obtain ⟨v, rfl, q1⟩ := rds1 q
    split at h
    · rename_i bs e
      obtain ⟨ps, e1, e2⟩ := Option.bind_eq_some_iff.mp e
      obtain ⟨a, vs, rfl, h1, h2⟩ := lstP_ok rr q1 e1
      exact ⟨a, bs, rfl, by rw [← allB_ok h2 e2]; exact h1, h.p rr mk_bool⟩
    · exact h.elim
  · exact h.elim⟩
theorem b_any (hc : X.calm = true) : CallX X (.builtin "any") fAny := ⟨_, cr_any hc, fun WE c ds vs Q rr q h => by
  unfold fAny at h
  split at h
  · rename_i d
    obtain ⟨v, rfl, q1⟩ := rds1 q
    split at h
    · rename_i bs e
      obtain ⟨ps, e1, e2⟩ := Option.bind_eq_some_iff.mp e
      obtain ⟨a, vs, rfl, h1, h2⟩ := lstP_ok rr q1 e1
      exact ⟨a, bs, rfl, by rw [← allB_ok h2 e2]; exact h1, h.p rr mk_bool⟩
    · exact h.elim
  · exact h.elim⟩
def allI : List PyData → Option (List Int)
  | [] => some []
  | .int b :: ps => (allI ps).map (b :: ·)
  | _ :: _ => none
theorem allI_ok {K : PySem.W.Frag} {H : Hp} : ∀ {ps : List PyData} {vs : List V} {bs : List Int}, RPs K H ps vs → allI ps = some bs → vs = bs.map V.int
  | [], _, _, h, e => by simp only [RPs] at h; simp [allI] at e; subst h; subst e; rfl
  | p :: ps, _, bs, h, e => by
    simp only [RPs] at h
    obtain ⟨v, r, rfl, h1, h2⟩ := h
    cases p <;> simp only [allI, Option.map_eq_some_iff, reduceCtorEq] at e
    obtain ⟨bs', e1, rfl⟩ := e
    rw [rp_int h1, allI_ok h2 e1]; rfl
def fSum : List D → S → R D := fun ds s => match ds with
  | [d] => (match (lstP d s).bind allI with
    | some ns => .ok (.p (.int ns.sum)) s
    | none => .bad)
  | _ => .bad
theorem b_sum (hc : X.calm = true) : CallX X (.builtin "sum") fSum := ⟨_, cr_sum hc, fun WE c ds vs Q rr q h => by
  unfold fSum at h
  split at h
  · rename_i d
    obtain ⟨v, rfl, q1⟩ := rds1 q
    split at h
    · rename_i bs e
      obtain ⟨ps, e1, e2⟩ := Option.bind_eq_some_iff.mp e
      obtain ⟨a, vs, rfl, h1, h2⟩ := lstP_ok rr q1 e1
      exact ⟨a, bs, rfl, by rw [← allI_ok h2 e2]; exact h1, h.p rr mk_int⟩
    · exact h.elim
  · exact h.elim⟩
def fTuple : List D → S → R D := fun ds s => match ds with
  | [.p (.tuple ps)] => .ok (.p (.tuple ps)) s
  | [d] => (match lstP d s with
    | some ps => .ok (.p (.tuple ps)) s
    | none => .bad)
  | _ => .bad
theorem b_tuple : CallX X (.type "tuple") fTuple := ⟨_, call_tuple_of, fun WE c ds vs Q rr q h => by
  unfold fTuple at h
  split at h
  · rename_i ps
    obtain ⟨v, rfl, q1⟩ := rds1 q
    obtain ⟨a, vs, e1, h1, h2⟩ := rd_tup q1
    subst e1
    exact ⟨a, vs, rfl, .inr ⟨h1, h.p rr q1⟩⟩
  · rename_i d _
    obtain ⟨v, rfl, q1⟩ := rds1 q
    split at h
    · rename_i ps e
      obtain ⟨a, vs, rfl, h1, h2⟩ := lstP_ok rr q1 e
      exact ⟨a, vs, rfl, .inl ⟨h1, fun l nl => h.tup rr h2 nl⟩⟩
    · exact h.elim
  · exact h.elim⟩
/-- list(xs): an own list -/
def kNew : List D → S → R D := fun ds s => .ok (.ref s.g.length) { s with g := s.g ++ [some (.lst ds)] }
def fList : List D → S → R D := fun ds s => match ds with
  | [.p (.tuple ps)] => kNew (ps.map .p) s
  | [.p (.list ps)] => kNew (ps.map .p) s
  | [.ref j] => (match s.g[j]? with
    | some (some (.lst xs)) => kNew xs s
    | _ => .bad)
  | _ => .bad
theorem kNew_put {Y : Md} {WE : Value → Option Addr → Hp → Prop} {c : Cf} {ds : List D} {vs : List V} {Q : VK} {t : Addr} (h : Post Y (rd Y) WE c (kNew ds c.s) Q) (r : Rel Y c) (q : RDs Y c.m c.o c.H ds vs) (n : c.H t = none) :
    Q (.ref t) (upd c.H t (.lst vs)) := by
  refine h (.ref t) (c.new t (.lst vs) (.lst ds)) rfl (Stp.new r n) (r.new n ?_) ⟨t, ?_, rfl⟩
  · exact ⟨vs, upd_same, RDs.up (fun i a e => get_app e) (fun _ _ e => e) (stay_of (upd_stay n)) q⟩
  · show (c.m ++ [t])[c.s.g.length]? = some t
    rw [← r.gl]; simp
theorem b_list : CallX X (.type "list") fList := ⟨_, call_list_of, fun WE c ds vs Q rr q h => by
  unfold fList at h
  split at h
  · rename_i ps
    obtain ⟨v, rfl, q1⟩ := rds1 q
    obtain ⟨a, vs, rfl, h1, h2⟩ := rd_tup q1
    exact ⟨a, vs, rfl, .inr h1, fun l nl => kNew_put h rr h2.rds nl⟩
  · rename_i ps
    obtain ⟨v, rfl, q1⟩ := rds1 q
    obtain ⟨a, vs, rfl, h1, h2⟩ := rd_lst q1
    exact ⟨a, vs, rfl, .inl h1.sq, fun l nl => kNew_put h rr h2.rds nl⟩
  · rename_i j
    obtain ⟨v, rfl, q1⟩ := rds1 q
    split at h
    · rename_i xs ex
      obtain ⟨a, ea, vs, ev, qs⟩ := rr.g j _ ex
      obtain ⟨a', ea', rfl⟩ := q1
      rw [ea] at ea'; cases ea'
      exact ⟨a, vs, rfl, .inl (SqL.of ev), fun l nl => kNew_put h rr qs nl⟩
    · exact h.elim
  · exact h.elim⟩
def fInt : List D → S → R D := fun ds s => match ds with
  | [.p (.int i)] => .ok (.p (.int i)) s
  | [.p (.bool b)] => .ok (.p (.int (if b then 1 else 0))) s
  | _ => .bad
theorem b_int : CallX X (.type "int") fInt := ⟨_, call_int1, fun WE c ds vs Q rr q h => by
  unfold fInt at h
  split at h
  · obtain ⟨v, rfl, q1⟩ := rds1 q
    exact .inl ⟨_, by rw [rd_int q1], h.p rr mk_int⟩
  · obtain ⟨v, rfl, q1⟩ := rds1 q
    exact .inr ⟨_, by rw [rd_bool q1], h.p rr mk_int⟩
  · exact h.elim⟩
end
end Mp

/-! MP, part H: frozen displays, pure calls, raise, try, isinstance, slices, lists changed. -/
namespace Mp
open PySem PySem.Spec PyProof.Rows L2
section
variable {X : Cx} {W : WX} {pos : Pos} {a b : Expr} {ma mb : ME} {es : List Expr} {ms : MA}

/-! ### a list display that stands for good -/
theorem stay_poke {H : Hp} {a : Addr} {u : HO} (h : ∀ v, H a = some v → Movable v) : Stay H (upd H a u) := fun b => by
  refine ⟨fun xs e => ?_, fun o w e => ?_⟩
  · rw [upd_ne]
    · exact e
    · intro z; subst z; exact (h _ e)
  · rw [upd_ne]
    · exact e
    · intro z; subst z; exact (h _ e)
def mLstF (ms : MA) : ME := fun env s => (ms env s).bind fun ds s1 => match allP ds with
  | some ps => if sizeOk ps.length then .ok (.p (.list ps)) s1 else .bad
  | none => .bad
/-- a fresh list, frozen at once -/
theorem Post.frz {Y : Md} {WE : Value → Option Addr → Hp → Prop} {c : Cf} {ps : List PyData} {vs : List V} {Q : VK} {t : Addr} (h : Post Y (rd Y) WE c (.ok (.p (.list ps)) c.s) Q) (r : Rel Y c) (q : RPs Y.K c.H ps vs) (n : c.H t = none) :
    FZ (Q (.ref t)) (upd c.H t (.lst vs)) := by
  refine .one t (.lst vs) upd_same trivial fun o => .done ?_
  have e : upd (upd c.H t (.lst vs)) t (.frz o (.lst vs)) = upd c.H t (.frz o (.lst vs)) := upd_upd
  rw [e]
  refine h (.ref t) (c.at t (.frz o (.lst vs))) rfl (Stp.at n) (r.at n) ?_
  show RP Y.K (upd c.H t (.frz o (.lst vs))) (.list ps) (.ref t)
  simp only [RP]
  exact ⟨t, vs, rfl, .inl ⟨o, upd_same⟩, RPs.stay (stay_of (upd_stay n)) q⟩
theorem e_lstF (hs : PA X es (LA X W ms)) : PE X (.List es pos) (LE X W (mLstF ms)) := by
  refine ((pe_lst hs).fz).imp fun σ H Q ⟨env, c, e, re, rr, h⟩ => ⟨env, c, e, re, rr, h.bind fun ds vs c1 s1 r1 q1 h1 => ?_⟩
  cases e2 : allP ds with
  | none => simp only [e2] at h1; exact h1.elim
  | some ps =>
    simp only [e2] at h1
    split at h1
    · rename_i hz
      have q2 := allP_ok q1 e2
      exact ⟨by rw [← q2.length]; exact of_decide_eq_true hz, fun p np => h1.frz r1 q2 np⟩
    · exact h1.elim
/-- list(xs) that stands for good -/
def fListF : List D → S → R D := fun ds s => match ds with
  | [.p (.tuple ps)] => .ok (.p (.list ps)) s
  | [d] => (match lstP d s with
    | some ps => .ok (.p (.list ps)) s
    | none => .bad)
  | _ => .bad
/-- a call of a built-in whose list is frozen at once -/
def LinkF (Y : Md) (f : List D → S → R D) (r : List V → Hp → VK → Prop) : Prop := ∀ WE c ds vs Q, Rel Y c → rds Y c ds vs → Post Y (rd Y) WE c (f ds c.s) Q → r vs c.H fun v H' => FZ (Q v) H'
theorem b_listF : LinkF (yx X) fListF (fun xs H Q => ∃ p ys, xs = [.ref p] ∧ (SqL X.K H p ys ∨ SqT X.K H p ys) ∧ ∀ l, H l = none → Q (.ref l) (upd H l (.lst ys))) := fun WE c ds vs Q rr q h => by
  unfold fListF at h
  split at h
  · rename_i ps
    obtain ⟨v, rfl, q1⟩ := rds1 q
    obtain ⟨a, vs, rfl, h1, h2⟩ := rd_tup q1
    exact ⟨a, vs, rfl, .inr h1, fun l nl => h.frz rr h2 nl⟩
  · rename_i d _
    obtain ⟨v, rfl, q1⟩ := rds1 q
    split at h
    · rename_i ps e
      obtain ⟨a, vs, rfl, h1, h2⟩ := lstP_ok rr q1 e
      exact ⟨a, vs, rfl, .inl h1, fun l nl => h.frz rr h2 nl⟩
    · exact h.elim
  · exact h.elim
theorem e_listF {x : Str} {p : Pos} {e : Expr} (hg : Gl X x) (hm : X.mg x = none) (hv : bootBuiltins x = some (.type "list")) (ha : PA X (e :: es) (LA X W ms)) (hn : x ≠ "__name__" := by decide) (hdb : (x == ("__debug__" : Str)) = false := by decide)
    (he : starEach (e :: es) X.env = (false, eval e X.env) :: starEach es X.env := by rfl) (hpl : (backTo pos (starEach es X.env)).any (·.1) = false := by rfl) : PE X (.Call (.Name x p) (e :: es) [] pos) (LE X W (mCall fListF ms)) :=
  ((pe_callTy call_list_of hg hm hv ha hn hdb he hpl).fz).imp fun σ H Q ⟨env, c, e, re, rr, h⟩ => ⟨env, c, e, re, rr, h.bind fun ds vs c1 s1 r1 q1 h1 => b_listF _ c1 ds vs Q r1 q1 h1⟩

/-! ### a call on a heap of its own -/
def onlyP : List D → Bool
  | [] => true
  | .ref _ :: _ => false
  | _ :: ds => onlyP ds
def onlyF : List (Str × D) → Bool
  | [] => true
  | (_, .p _) :: fs => onlyF fs
  | _ :: _ => false
/-- run on an empty small heap; what is handed back is pure -/
def pureRun (f : List D → S → R D) : List D → S → R D := fun ds s => if onlyP ds then (match f ds ⟨[], s.w⟩ with
  | .ok (.p x) s' => .ok (.p x) ⟨s.g, s'.w⟩
  | .ex x fs s' => if onlyF fs then .ex x fs ⟨s.g, s'.w⟩ else .bad
  | _ => .bad) else .bad
theorem onlyP_rds {Y : Md} {m m' o o' : List Addr} {H : Hp} (ho : ∀ (i : Nat) (a : Addr), o[i]? = some a → o'[i]? = some a) : ∀ {ds : List D} {vs : List V}, onlyP ds = true → RDs Y m o H ds vs → RDs Y m' o' H ds vs
  | [], _, _, .nil => .nil
  | .p x :: ds, _, e, .cons q t => .cons q (onlyP_rds ho (by simpa [onlyP] using e) t)
  | .fn x :: ds, _, e, .cons q t => .cons q (onlyP_rds ho (by simpa [onlyP] using e) t)
  | .well i :: ds, _, e, .cons q t => by
    obtain ⟨a, e1, e2⟩ := q
    exact .cons ⟨a, ho _ _ e1, e2⟩ (onlyP_rds ho (by simpa [onlyP] using e) t)
  | .ref i :: ds, _, e, .cons q t => by simp [onlyP] at e
/-- the callee's configuration -/
def Cf.alone (c : Cf) : Cf := ⟨⟨[], c.s.w⟩, [], c.o, c.H⟩
theorem Rel.alone {Y : Md} {c : Cf} (r : Rel Y c) : Rel Y c.alone := by
  refine ⟨fun i x h => by simp [Cf.alone] at h, fun i x h => ?_, rfl, r.wl, fun i j x y a h => by simp [Cf.alone] at h, r.wi, fun a h => ?_⟩
  · exact r.w i x h
  · obtain ⟨i, x, h, _⟩ := h
    simp [Cf.alone] at h
/-- behind the callee: the caller's objects stand as they stood -/
def Cf.back (c c2 : Cf) : Cf := ⟨⟨c.s.g, c2.s.w⟩, c.m, c2.o, c2.H⟩
theorem own_alone {c : Cf} {a : Addr} (h : c.alone.Own a) : Alive c.s.w c.o a := by
  rcases h with ⟨i, x, h, _⟩ | h
  · simp [Cf.alone] at h
  · exact h
theorem Rel.back {Y : Md} {c c2 : Cf} (r : Rel Y c) (st : Stp c.alone c2) (r2 : Rel Y c2) : Rel Y (c.back c2) := by
  have stay : Stay c.H c2.H := st.stay r.alone
  have keep : ∀ a, Alive c.s.g c.m a → ∀ u, c.H a = some u → c2.H a = some u := fun a ha u h => st.ext a u h fun z => r.gw a ha (own_alone z)
  refine ⟨fun i x h => ?_, fun i x h => r2.w i x h, r.gl, r2.wl, r.gi, r2.wi, fun a h1 h2 => ?_⟩
  · obtain ⟨a, e, q⟩ := r.g i x h
    refine ⟨a, e, q.up (fun _ _ z => z) st.o stay (fun u hu => keep a ⟨i, x, h, e⟩ u hu) (fun d hd => st.ext d _ hd fun z => ?_)⟩
    exact r.alone.notOwn hd (fun z => z) z
  · rcases st.own a (.inr h2) with z | z
    · exact r.gw a h1 (own_alone z)
    · obtain ⟨u, hu, _⟩ := r.own (.inl h1)
      have z' : c.H a = none := z
      rw [hu] at z'; cases z'
theorem Stp.back {Y : Md} {c c2 : Cf} (r : Rel Y c) (st : Stp c.alone c2) : Stp c (c.back c2) where
  m := fun _ _ h => h
  o := st.o
  own := fun a h => by
    rcases h with h | h
    · exact .inl (.inl h)
    · rcases st.own a (.inr h) with z | z
      · exact .inl (.inr (own_alone z))
      · exact .inr z
  ext := fun a u h n => st.ext a u h fun z => n (.inr (own_alone z))
theorem pureRun_ok {Y : Md} {n : Nat} {m : List D → S → R D} {vs : List V} {c : Cf} {ds : List D} {Q : VK} {E : XK} (hl : vs.length = n) (r : Rel Y c) (q : rds Y c ds vs) (h : Post Y (rd Y) (fun cv dx H' => E cv dx H') c (pureRun m ds c.s) Q) : spM Y n m vs c.H Q E := by
  unfold pureRun at h
  split at h
  · rename_i ho
    refine ⟨hl, ds, c.alone, rfl, r.alone, onlyP_rds (fun _ _ z => z) ho q, ?_⟩
    show Post Y (rd Y) _ c.alone (m ds ⟨[], c.s.w⟩) Q
    cases hm : m ds ⟨[], c.s.w⟩ with
    | ok d s' =>
      rw [hm] at h
      cases d with
      | p x =>
        intro v c2 e2 s2 r2 q2
        refine h v (c.back c2) ?_ (s2.back r) (r.back s2 r2) q2
        show (⟨c.s.g, c2.s.w⟩ : S) = _
        rw [e2]
      | ref i => exact h.elim
      | well i => exact h.elim
      | fn x => exact h.elim
    | ex x fs s' =>
      rw [hm] at h
      simp only at h
      split at h
      · rename_i hf
        intro cv dx c2 e2 s2 r2 xr
        refine h cv dx (c.back c2) ?_ (s2.back r) (r.back s2 r2) ?_
        · show (⟨c.s.g, c2.s.w⟩ : S) = _
          rw [e2]
        · obtain ⟨C, e1, e3, e4⟩ := xr
          refine ⟨C, e1, e3, ?_⟩
          rcases e4 with e4 | ⟨d, fv, e5, e6, e7⟩
          · exact .inl e4
          · refine .inr ⟨d, fv, e5, e6, ?_⟩
            have gen : ∀ {fs : List (Str × D)} {fv : List (Str × V)}, onlyF fs = true → Paired (fun (p : Str × D) (q : Str × V) => p.1 = q.1 ∧ RD Y c2.m c2.o c2.H p.2 q.2) fs fv → Paired (fun (p : Str × D) (q : Str × V) => p.1 = q.1 ∧ RD Y (c.back c2).m (c.back c2).o (c.back c2).H p.2 q.2) fs fv := by
              intro fs fv ho p
              induction p with
              | nil => exact .nil
              | cons q t ih =>
                rename_i a b la lb
                obtain ⟨n, d⟩ := a
                cases d with
                | p x => exact .cons q (ih (by simpa [onlyF] using ho))
                | ref i => simp [onlyF] at ho
                | well i => simp [onlyF] at ho
                | fn x => simp [onlyF] at ho
            exact gen hf e7
      · exact h.elim
    | bad => rw [hm] at h; exact h.elim
  · exact h.elim
theorem e_callP {k n : Nat} {f : Addr} {fd : FuncData} {ps : List Str} {x : Str} {p : Pos} {e : Expr} {m : List D → S → R D} (F : FnOk X.prog X.w X.K X.mg X.base (L2.CX X.prog X.w) k f fd ps (spM (yx X) n m)) (hr : Room k X.A) (hg : Gl X x) (hm : X.mg x = some (.ref f))
    (hk : PySem.W.keepIn X.K (.ref f) = true) (hb : Binds X.K fd ps []) (tk : Takes X W) (ha : PA X (e :: es) (LA X W ms)) (hl : ∀ env s ds s', ms env s = .ok ds s' → ds.length = n)
    (hdb : (x == ("__debug__" : Str)) = false := by decide) (he : starEach (e :: es) X.env = (false, eval e X.env) :: starEach es X.env := by rfl) (hpl : (backTo pos (starEach es X.env)).any (·.1) = false := by rfl) :
    PE X (.Call (.Name x p) (e :: es) [] pos) (LE X W (mCall (pureRun m) ms)) := by
  refine (pe_callS (E := fun σ => fun cls d H => W cls d σ H) F hr hg hm hk hb (fun σ => passAt tk σ) ha hdb he hpl).imp fun σ H Q ⟨env, c, e, re, r, h⟩ => ?_
  refine ⟨env, c, e, re, r, ?_⟩
  cases hms : ms env c.s with
  | ok ds s' =>
    unfold mCall at h
    rw [hms] at h
    intro vs c1 e1 s1 r1 q1
    refine pureRun_ok (by rw [← Paired.length q1]; exact hl _ _ _ _ hms) r1 q1 ?_
    rw [e1]
    exact h.step s1
  | ex y fs s' =>
    unfold mCall at h
    rw [hms] at h
    exact h
  | bad =>
    unfold mCall at h
    rw [hms] at h
    exact h.elim
/-- so many arguments -/
def ArgN (ms : MA) (n : Nat) : Prop := ∀ env s ds s', ms env s = .ok ds s' → ds.length = n
theorem argN_nil : ArgN mNil 0 := fun env s ds s' h => by cases h; rfl
theorem argN_cons {n : Nat} (h : ArgN ms n) : ArgN (mCons ma ms) (n + 1) := fun env s ds s' e => by
  unfold mCons at e
  cases h1 : ma env s with
  | ok d s1 =>
    rw [h1] at e
    simp only [Mp.R.bind_ok] at e
    cases h2 : ms env s1 with
    | ok ds2 s2 =>
      rw [h2] at e
      cases e
      simp [h _ _ _ _ h2]
    | ex x fs s2 => rw [h2] at e; cases e
    | bad => rw [h2] at e; cases e
  | ex x fs s1 => rw [h1] at e; cases e
  | bad => rw [h1] at e; cases e

/-! ### raise -/
def sRaise (x : Str) : MS := fun env s => .ex x [] env s
theorem pmk_none {C : Addr} {bmB : List Value} {B newId initId : String} {x : Str} {p : Pos} (F : ExcBaseFacts B newId initId bmB) (q : PySem.W.excIn X.K C bmB newId = true) (gC : X.mg x = some (.ref C))
    (kC : PySem.W.keepIn X.K (.ref C) = true) (r : Raises X (.ref C)) (hg : Gl X x) (hdb : (x == ("__debug__" : Str)) = false := by decide) : PMk X (.Call (.Name x p) [] [] pos) (fun _ H Q => Q (.ref C) none H) := by
  intro pins s σ H Q I q1
  refine wpAny_Call_Name_kw (ld_glob I hg gC ?_ hdb)
  refine PySem.W.callWith_K0 (first := []) I.kIn kC ?_
  obtain ⟨bm, N, nm, qn, bs, hdct, sn, sub, ab, col, dd, k0, k1, k2, k3, k5, mN, hC, hN, hni, T⟩ := exc_obj I.kIn q
  exact wpAny_call_exc_subT F T hC hN hni (fun h' e hm => mk_of I hm r q1 (I.hok.gone hm.new)) (Nat.zero_le _)
theorem s_raise {C : Addr} {bmB : List Value} {B newId initId : String} {x : Str} {p : Pos} (F : ExcBaseFacts B newId initId bmB) (q : PySem.W.excIn X.K C bmB newId = true) (gC : X.mg x = some (.ref C))
    (kC : PySem.W.keepIn X.K (.ref C) = true) (r : Raises X (.ref C)) (hc : X.calm = true) (tk : Takes X W) (hg : Gl X x) (hdb : (x == ("__debug__" : Str)) = false := by decide) {pos' : Pos} :
    PS X (.Raise (some (.Call (.Name x p) [] [] pos)) none pos') (LS X W (sRaise x)) :=
  (ps_raise hc tk (pmk_none F q gC kC r hg hdb)).imp fun D σ H ⟨env, c, e, re, rr, h⟩ => by
    subst e
    exact h (.ref C) none σ c rfl Stp.refl rr ⟨C, rfl, gC, .inl ⟨rfl, rfl⟩⟩ re

/-! ### try -/
/-- which clause takes it -/
def hdl (em : Str → Str → Bool) (x : Str) (fs : List (Str × D)) (env : Env1) (s : S) : List (Str × MS) → RS
  | [] => .ex x fs env s
  | (c, m) :: r => if em x c then (match m env s with
    | .ex _ _ _ _ => .bad
    | z => z) else hdl em x fs env s r
def sTry (em : Str → Str → Bool) (mb : MS) (hs : List (Str × MS)) : MS := fun env s => match mb env s with
  | .ex x fs env' s' => hdl em x fs env' s' hs
  | z => z
/-- the clauses' suites -/
inductive HdM (X : Cx) : List ExceptHandler → List (Str × Value × MS) → Prop
  | nil : HdM X [] []
  | cons {x : Str} {c : Value} {m : MS} {b₀ : Stmt} {suite : List Stmt} {np pos' : Pos} {hds : List ExceptHandler} {l : List (Str × Value × MS)} (hc : Names X x c)
      (hsu : ∀ (a : Addr) (pn : List (Addr × Obj)), PSs (X.suite a pn) (b₀ :: suite) (LS X wNo m)) (r : HdM X hds l) : HdM X (.ExceptHandler (some (.Name x np)) none (b₀ :: suite) pos' :: hds) ((x, c, m) :: l)
theorem HdM.ok {hds : List ExceptHandler} {l : List (Str × Value × MS)} (h : HdM X hds l) : HdsOk X hds (l.map fun p => (p.2.1, fun _ _ _ => LS X wNo p.2.2)) := by
  induction h with
  | nil => exact .nil
  | cons hc hsu r ih => exact .cons hc (fun a oe cls d pn hz hf => hsu a _) ih
theorem s_try {body : List Stmt} {h₀ : ExceptHandler} {hds : List ExceptHandler} {l : List (Str × Value × MS)} {mb : MS} {em : Str → Str → Bool} (hs : X.stack = X.env :: X.outer) (hf : X.env.frame = some X.env.locals) (tk : Takes X W)
    (hb : ∀ (W' : WX) (pn : List (Addr × Obj)) (xe : Value → Shared → Prop), Takes (X.tr pn xe) W' → PassesOwn (model X.prog X.w) X.A X.env xe → PSs (X.tr pn xe) body (LS X W' mb))
    (hh : HdM X (h₀ :: hds) l) (hem : ∀ x C, X.mg x = some (.ref C) → ∀ p ∈ l, PySem.W.exmOne X.K (.ref C) p.2.1 = some (em x p.1)) : PS X (.Try body (h₀ :: hds) [] [] pos) (LS X W (sTry em mb (l.map fun p => (p.1, p.2.2)))) := by
  refine (ps_try_many (tb := fun W' => LS X W' mb) hs hf tk hb hh.ok).imp fun D σ H ⟨env, c, e, re, rr, h⟩ => ⟨env, c, e, re, rr, ?_⟩
  unfold sTry at h
  cases hm : mb env c.s with
  | ex x fs env' s' =>
    rw [hm] at h
    intro cv dx σ' c' e' st' r' xr re'
    have h' := PostS.step h st'
    simp only at h'
    obtain ⟨C, e1, e2, e3⟩ := id xr
    subst e1
    have key : ∀ l : List (Str × Value × MS), (∀ p ∈ l, PySem.W.exmOne X.K (.ref C) p.2.1 = some (em x p.1)) → PostS (yx X) W D c' (hdl em x fs env' s' (l.map fun p => (p.1, p.2.2))) →
        wMany X.K W D (l.map fun p => (p.2.1, fun _ _ _ => LS X wNo p.2.2)) (.ref C) dx σ' c'.H := by
      intro l
      induction l with
      | nil => exact fun _ z => z (.ref C) dx σ' c' e' Stp.refl r' xr re'
      | cons p l ih =>
        intro hp z
        obtain ⟨y, cc, mm⟩ := p
        refine ⟨em x y, hp _ List.mem_cons_self, fun hb' a na => ?_, fun hb' => ?_⟩
        · simp only [List.map_cons, hdl, hb', if_true] at z
          refine ⟨env', c', rfl, re', r', ?_⟩
          rw [← e'] at z
          show PostS (yx X) wNo D c' (mm env' c'.s)
          cases hmm : mm env' c'.s with
          | ex _ _ _ _ => rw [hmm] at z; exact z.elim
          | nx _ _ => rw [hmm] at z; exact z
          | ret _ _ => rw [hmm] at z; exact z
          | brk _ _ => rw [hmm] at z; exact z
          | cont _ _ => rw [hmm] at z; exact z
          | bad => rw [hmm] at z; exact z.elim
        · simp only [List.map_cons, hdl, hb', Bool.false_eq_true, if_false] at z
          exact ih (fun q hq => hp q (List.mem_cons_of_mem _ hq)) z
    exact key l (hem x C e2) h'
  | nx env' s' => rw [hm] at h; exact h
  | ret d s' => rw [hm] at h; exact h
  | brk env' s' => rw [hm] at h; exact h
  | cont env' s' => rw [hm] at h; exact h
  | bad => rw [hm] at h; exact h
end
end Mp

/-! MP, part I: isinstance, slices, sums of sequences, lists changed, the well. -/
namespace Mp
open PySem PySem.Spec PyProof.Rows L2

/-! ### isinstance -/
def tyP : PyData → String
  | .none => "NoneType"
  | .bool _ => "bool"
  | .int _ => "int"
  | .str _ => "str"
  | .tuple _ => "tuple"
  | .list _ => "list"
  | .dict _ => "dict"
def tyD (d : D) (s : S) : Option String := match d with
  | .p x => some (tyP x)
  | .ref i => (match s.g[i]? with
    | some (some (.lst _)) => some "list"
    | _ => none)
  | _ => none
def isiT (t T : String) : Bool := t == T || (t == "bool" && T == "int")
def isiTys : List String := ["bool", "int", "str", "tuple", "list", "dict"]
theorem isi_kit : (["NoneType", "bool", "int", "str", "tuple", "list", "dict"].all fun t => isiTys.all fun T => kitB t T == some (isiT t T)) = true := by decide +kernel
theorem kit_isi {K : PySem.W.Frag} {t T : String} (ht : t ∈ ["NoneType", "bool", "int", "str", "tuple", "list", "dict"]) (hT : T ∈ isiTys) : PySem.W.kitOne K (.type t) (.type T) = some (isiT t T) := by
  have h := isi_kit
  rw [List.all_eq_true] at h
  have h1 := h t ht
  rw [List.all_eq_true] at h1
  exact kit_ty (by simpa using h1 T hT)
theorem dict_ok {Y : Md} {c : Cf} {kvs : List (PyData × PyData)} {v : V} (q : rd Y c (.p (.dict kvs)) v) : TyX Y.K c.H v (.type "dict") := by
  have q : RP Y.K c.H (.dict kvs) v := q
  simp only [RP] at q
  obtain ⟨a, l, rfl, ⟨o, u, h1, h2⟩, h3⟩ := q
  exact .fDict h1
theorem tyD_ok {Y : Md} {c : Cf} {d : D} {v : V} {t : String} (rr : Rel Y c) (q : rd Y c d v) (e : tyD d c.s = some t) : TyX Y.K c.H v (.type t) ∧ t ∈ ["NoneType", "bool", "int", "str", "tuple", "list", "dict"] := by
  unfold tyD at e
  split at e
  · rename_i x
    cases e
    cases x with
    | none => rw [rd_none q]; exact ⟨.base .non, by simp [tyP]⟩
    | bool b => rw [rd_bool q]; exact ⟨.base (.bl _), by simp [tyP]⟩
    | int b => rw [rd_int q]; exact ⟨.base (.int _), by simp [tyP]⟩
    | str b => rw [rd_str q]; exact ⟨.base (.str _), by simp [tyP]⟩
    | tuple ps =>
      obtain ⟨a, vs, rfl, h1, h2⟩ := rd_tup q
      refine ⟨?_, by simp [tyP]⟩
      rcases h1 with (h1 | ⟨o, h1⟩) | ⟨o, its, n, h1, h3, _⟩
      · exact .base (.tup h1)
      · exact .fTuple h1
      · exact .kTuple h1 h3
    | list ps =>
      obtain ⟨a, vs, rfl, h1, h2⟩ := rd_lst q
      refine ⟨?_, by simp [tyP]⟩
      rcases h1 with ⟨o, h1⟩ | ⟨o, its, n, h1, h3, _⟩
      · exact .base (.frz h1)
      · exact .kList h1 h3
    | dict kvs => exact ⟨dict_ok q, by simp [tyP]⟩
  · rename_i i
    split at e
    · rename_i xs ex
      cases e
      obtain ⟨a, ea, vs, ev, qs⟩ := rr.g i _ ex
      obtain ⟨a', ea', rfl⟩ := q
      rw [ea] at ea'; cases ea'
      exact ⟨.base (.lst ev), by simp⟩
    · cases e
  · cases e
section
variable {X : Cx} {W : WX} {pos : Pos} {a b : Expr} {ma mb : ME} {es : List Expr} {ms : MA}
def fIsi (T : String) : D → S → R D := fun d s => match tyD d s with
  | some t => .ok (.p (.bool (isiT t T))) s
  | none => .bad
def mIsi (T : String) (ma : ME) : ME := fun env s => (ma env s).bind (fIsi T)
theorem e_isi {T : String} {Tn : Str} {p p2 : Pos} (hT : T ∈ isiTys) (hg : Gl X "isinstance") (hm : X.mg "isinstance" = none) (hg2 : Gl X Tn) (hm2 : X.mg Tn = none) (hv2 : bootBuiltins Tn = some (.type T)) (ha : PE X a (LE X W ma)) (hv : bootBuiltins "isinstance" = some (.builtin "isinstance") := by decide +kernel)
    (hn2 : Tn ≠ "__name__" := by decide) (hd2 : (Tn == ("__debug__" : Str)) = false := by decide)
    (he : starEach [a, .Name Tn p2] X.env = (false, eval a X.env) :: starEach [.Name Tn p2] X.env := by rfl) (hpl : (backTo pos (starEach [.Name Tn p2] X.env)).any (·.1) = false := by rfl) :
    PE X (.Call (.Name "isinstance" p) [a, .Name Tn p2] [] pos) (LE X W (mIsi T ma)) := by
  refine (pe_callB call_isi hg hm hv (pa_cons ha (pa_cons (pe_bltn (v := .ty T) hg2 hm2 hv2 rfl hn2 hd2) pa_nil) he) (by decide) (by decide) he hpl).imp fun σ H Q ⟨env, c, e, re, r, h⟩ => ?_
  refine ⟨env, c, e, re, r, h.bind fun d v c1 s1 r1 q1 h1 => ?_⟩
  unfold fIsi at h1
  cases et : tyD d c1.s with
  | none => rw [et] at h1; exact h1.elim
  | some t =>
    rw [et] at h1
    obtain ⟨z1, z2⟩ := tyD_ok r1 q1 et
    exact ⟨v, .ty T, _, _, _, rfl, .ty T, z1, kit_isi z2 hT, h1.p r1 mk_bool⟩

/-! ### slices -/
abbrev MO := Env1 → S → R (Option Int)
def ro : Cf → Option Int → Option Int → Prop := fun _ a b => a = b
def LO (X : Cx) (W : WX) (m : MO) : TO := fun σ H Q => ∃ env c, c.H = H ∧ RE (yx X) c env σ ∧ Rel (yx X) c ∧ Post (yx X) ro (fun cv dx H' => W cv dx σ H') c (m env c.s) Q
def oNo : MO := fun _ s => .ok none s
def oSome (ma : ME) : MO := fun env s => (ma env s).bind fun d s1 => match d with
  | .p (.int i) => .ok (some i) s1
  | _ => .bad
theorem p_no : PO X none (LO X W oNo) := ⟨fun pins s σ H Q I ⟨env, c, e, re, r, h⟩ => po_none.run pins s σ H Q I (by subst e; exact Post.here (Y := yx X) (RA := ro) (a := none) h r rfl)⟩
theorem p_some (ha : PE X a (LE X W ma)) : PO X (some a) (LO X W (oSome ma)) := ⟨fun pins s σ H Q I ⟨env, c, e, re, r, h⟩ => (po_some ha).run pins s σ H Q I ⟨env, c, e, re, r, h.bind fun d v c1 s1 r1 q1 h1 => by
  split at h1
  · exact ⟨_, rd_int q1, Post.here (Y := yx X) (RA := ro) h1 r1 rfl⟩
  · exact h1.elim⟩⟩
def cutL {α : Type} (xs : List α) (lo hi : Option Int) : List α := (xs.drop (HT.sIx xs.length 0 lo)).take (HT.sIx xs.length xs.length hi - HT.sIx xs.length 0 lo)
theorem RPs.drop {K : PySem.W.Frag} {H : Hp} : ∀ {ps : List PyData} {vs : List V} (n : Nat), RPs K H ps vs → RPs K H (ps.drop n) (vs.drop n)
  | _, _, 0, h => by simpa using h
  | [], _, _ + 1, h => by simp only [RPs] at h; subst h; simp [RPs]
  | p :: ps, _, n + 1, h => by
    simp only [RPs] at h
    obtain ⟨v, r, rfl, h1, h2⟩ := h
    simpa using RPs.drop n h2
theorem RPs.take {K : PySem.W.Frag} {H : Hp} : ∀ {ps : List PyData} {vs : List V} (n : Nat), RPs K H ps vs → RPs K H (ps.take n) (vs.take n)
  | _, _, 0, h => by simp [RPs]
  | [], _, _ + 1, h => by simp only [RPs] at h; subst h; simp [RPs]
  | p :: ps, _, n + 1, h => by
    simp only [RPs] at h
    obtain ⟨v, r, rfl, h1, h2⟩ := h
    simp only [List.take_succ_cons, RPs]
    exact ⟨v, _, rfl, h1, RPs.take n h2⟩
theorem cut_rps {K : PySem.W.Frag} {H : Hp} {ps : List PyData} {vs : List V} {lo hi : Option Int} (h : RPs K H ps vs) : RPs K H (cutL ps lo hi) (cutV vs lo hi) := by
  unfold cutL cutV
  rw [h.length]
  exact (h.drop _).take _
/-- a tuple's or a text's part; a list's part that stands for good -/
def fSlice (d : D) (lo hi : Option Int) (s : S) : R D := match d with
  | .p (.tuple ps) => .ok (.p (.tuple (cutL ps lo hi))) s
  | .p (.list ps) => .ok (.p (.list (cutL ps lo hi))) s
  | .p (.str x) => if sizeOk x.length then .ok (.p (.str (cutS x lo hi))) s else .bad
  | .ref j => (match lstP (.ref j) s with
    | some ps => .ok (.p (.list (cutL ps lo hi))) s
    | none => .bad)
  | _ => .bad
def mSlice (ma : ME) (lo hi : MO) : ME := fun env s => (ma env s).bind fun d s1 => (lo env s1).bind fun l s2 => (hi env s2).bind fun h s3 => fSlice d l h s3
theorem sIx_whole {α : Type} {xs : List α} {lo hi : Option Int} (h : HT.sIx xs.length 0 lo = 0 ∧ HT.sIx xs.length xs.length hi = xs.length) : cutL xs lo hi = xs := by
  unfold cutL
  rw [h.1, h.2]
  simp
theorem e_slice {lo hi : Option Expr} {ml mh : MO} {p2 : Pos} (ha : PE X a (LE X W ma)) (hl : PO X lo (LO X W ml)) (hh : PO X hi (LO X W mh)) : PE X (.Subscript a (.Slice lo hi none p2) pos) (LE X W (mSlice ma ml mh)) := by
  refine ((pe_slice ((sl_tupA.or sl_str).or sl_list) ha hl hh).fz).imp fun σ H Q ⟨env, c, e, re, r, h⟩ => ?_
  refine ⟨env, c, e, re, r, h.bind fun d v c1 s1 r1 q1 h1 => ⟨env, c1, rfl, re.step r s1, r1, h1.bind fun l l' c2 s2 r2 ql h2 => ⟨env, c2, rfl, (re.step r s1).step r1 s2, r2, h2.bind fun u u' c3 s3 r3 qu h3 => ?_⟩⟩⟩
  cases ql
  cases qu
  have q3 := (q1.step r1 s2).step r2 s3
  unfold fSlice at h3
  split at h3
  · rename_i ps
    obtain ⟨t, vs, rfl, k1, k2⟩ := rd_tup (Y := yx X) (c := c3) q3
    refine .inl (.inl ⟨t, vs, rfl, k1, fun hw => ?_, fun hn p np => ?_⟩)
    · rw [← k2.length] at hw
      rw [sIx_whole hw] at h3
      exact .done (h3.p r3 q3)
    · exact .done (h3.tup r3 (cut_rps k2) np)
  · rename_i ps
    obtain ⟨t, vs, rfl, k1, k2⟩ := rd_lst (Y := yx X) (c := c3) q3
    exact .inr ⟨t, vs, rfl, k1.sq, fun p np => h3.frz r3 (cut_rps k2) np⟩
  · rename_i x
    split at h3
    · rename_i hz
      exact .inl (.inr ⟨x, rd_str (Y := yx X) (c := c3) q3, of_decide_eq_true hz, .done (h3.p r3 mk_str)⟩)
    · exact h3.elim
  · rename_i j
    split at h3
    · rename_i ps ep
      obtain ⟨t, vs, rfl, k1, k2⟩ := lstP_ok r3 q3 ep
      exact .inr ⟨t, vs, rfl, k1, fun p np => h3.frz r3 (cut_rps k2) np⟩
    · exact h3.elim
  · exact h3.elim

/-! ### sums of tuples, of own lists; a tuple so many times -/
def dAdd : D → D → S → R D := fun d1 d2 s => match d1, d2 with
  | .p (.tuple ps), .p (.tuple qs) => if sizeOk (ps.length + qs.length) then .ok (.p (.tuple (ps ++ qs))) s else .bad
  | .p (.list ps), .p (.list qs) => if sizeOk (ps.length + qs.length) then kNew ((ps ++ qs).map .p) s else .bad
  | .p a, .p b => ret1 (iAdd a b) s
  | .ref i, .ref j => (match s.g[i]?, s.g[j]? with
    | some (some (.lst xs)), some (some (.lst ys)) => if sizeOk (xs.length + ys.length) then kNew (xs ++ ys) s else .bad
    | _, _ => .bad)
  | _, _ => .bad
theorem Paired.app {α β : Type} {F : α → β → Prop} {l1 l2 : List α} {m1 m2 : List β} (p1 : Paired F l1 m1) (p2 : Paired F l2 m2) : Paired F (l1 ++ l2) (m1 ++ m2) := by
  induction p1 with
  | nil => exact p2
  | cons q t ih => exact .cons q ih
/-- any two lists -/
def rCatF (K : PySem.W.Frag) : R2 := fun x y H Q => ∃ a b xs ys, x = .ref a ∧ y = .ref b ∧ SqL K H a xs ∧ SqL K H b ys ∧ xs.length + ys.length ≤ sizeLine ∧ ∀ p, H p = none → Q (.ref p) (upd H p (.lst (xs ++ ys)))
theorem op_catF : OpR X (binaryOp .Add) (rCatF X.K) := by
  intro pins s σ H x y v u Q I rx ry h
  obtain ⟨a, b, xs, ys, rfl, rfl, ha, hb, hz, q⟩ := h
  cases rx
  cases ry
  obtain ⟨i1, r1, ⟨o1, n1, g1, c1, d1, e1⟩, _⟩ := I.list ha
  obtain ⟨i2, r2, ⟨o2, n2, g2, c2, d2, e2⟩, _⟩ := I.list hb
  have l1 := r1.length
  have l2 := r2.length
  obtain ⟨k1, z1, f1, sl1⟩ := o1
  obtain ⟨k2, z2, f2, sl2⟩ := o2
  simp only at c1 d1 e1 c2 d2 e2
  subst c1 d1 e1 c2 d2 e2
  refine concat_meets ⟨_, g1, rfl⟩ ⟨_, g2, rfl⟩ noFill_list_add seq_list_add PySem.F.slot_list_add PySem.F.entry_list_add (PySem.F.args_list_add_2 _ _)
    (list_addW a b i1.toArray i2.toArray n1 n2 none none sl1 sl2 (by simp; omega)) ⟨g1, g2, ?_⟩
  have ea : i1.toArray ++ i2.toArray = (i1 ++ i2).toArray := by simp
  rw [ea]
  exact ⟨.ref _, _, I.lnew (t' := s.toks) (r1.append r2) (by rw [List.length_append]; omega), rfl, q _ I.fresh⟩
theorem o_add : Op2 X (binaryOp .Add) dAdd := by
  refine ⟨_, (((op_add.or op_add_str).or op_catA).or op_cat).or op_catF, fun WE c d1 d2 v1 v2 Q rr q1 q2 h => ?_⟩
  unfold dAdd at h
  split at h
  · rename_i ps qs
    split at h
    · rename_i hz
      obtain ⟨t1, us, rfl, k1, k2⟩ := rd_tup q1
      obtain ⟨t2, ws, rfl, k3, k4⟩ := rd_tup q2
      refine .inl (.inl (.inr ⟨t1, t2, us, ws, rfl, rfl, k1, k3, by rw [← k2.length, ← k4.length]; exact of_decide_eq_true hz, fun e => ?_, fun n e => ?_, fun n1 n2 p np => h.tup rr (k2.app k4) np⟩))
      · have : ps = [] := by
          have := k2.length
          rw [e] at this
          exact List.length_eq_zero_iff.mp this
        subst this
        exact h.p rr q2
      · have : qs = [] := by
          have := k4.length
          rw [e] at this
          exact List.length_eq_zero_iff.mp this
        subst this
        rw [List.append_nil] at h
        exact h.p rr q1
    · exact h.elim
  · rename_i ps qs
    split at h
    · rename_i hz
      obtain ⟨t1, us, rfl, k1, k2⟩ := rd_lst q1
      obtain ⟨t2, ws, rfl, k3, k4⟩ := rd_lst q2
      refine .inr ⟨t1, t2, us, ws, rfl, rfl, k1.sq, k3.sq, by rw [← k2.length, ← k4.length]; exact of_decide_eq_true hz, fun p np => ?_⟩
      exact kNew_put h rr (by rw [List.map_append]; exact Paired.app (RPs.rds k2) (RPs.rds k4)) np
    · exact h.elim
  · rename_i a b _ _
    unfold ret1 at h
    split at h
    · rename_i x e
      unfold iAdd at e
      split at e
      · cases e
        exact .inl (.inl (.inl (.inl ⟨_, _, rd_int q1, rd_int q2, h.p rr mk_int⟩)))
      · split at e
        · rename_i hz
          cases e
          exact .inl (.inl (.inl (.inr ⟨_, _, rd_str q1, rd_str q2, of_decide_eq_true hz, h.p rr mk_str⟩)))
        · cases e
      · cases e
    · exact h.elim
  · rename_i i j
    split at h
    · rename_i xs ys ex ey
      split at h
      · rename_i hz
        obtain ⟨t1, e1, us, ev1, qs1⟩ := rr.g i _ ex
        obtain ⟨t1', e1', rfl⟩ := q1
        rw [e1] at e1'; cases e1'
        obtain ⟨t2, e2, ws, ev2, qs2⟩ := rr.g j _ ey
        obtain ⟨t2', e2', rfl⟩ := q2
        rw [e2] at e2'; cases e2'
        exact .inl (.inr ⟨t1, t2, us, ws, rfl, rfl, ev1, ev2, by rw [← Paired.length qs1, ← Paired.length qs2]; exact of_decide_eq_true hz, fun p np => kNew_put h rr (Paired.app qs1 qs2) np⟩)
      · exact h.elim
    · exact h.elim
  · exact h.elim
theorem RPs.rep {K : PySem.W.Frag} {H : Hp} {ps : List PyData} {vs : List V} (h : RPs K H ps vs) : ∀ n : Nat, RPs K H (List.replicate n ps).flatten (List.replicate n vs).flatten
  | 0 => by simp [RPs]
  | n + 1 => by
    rw [List.replicate_succ, List.replicate_succ, List.flatten_cons, List.flatten_cons]
    exact h.app (RPs.rep h n)
set_option maxHeartbeats 4000000 in
theorem tuple_mulZ (l : Addr) (n : Nat) (dd : Option Addr) (sl : Array (Option Value)) (x : Int) (u : Tok) (c0 : (decide (x < -(2 ^ 63)) || decide (x ≥ 2 ^ 63)) = false) :
    Meets (Builtin.«tuple.__mul__» ⟨[.ref l, .int x u], []⟩) (fun _ F s => s.heap.get? l = some { cls := .type "tuple", dict := dd, data := .seq #[] n, slots := sl } ∧ F (.ok (.ret (Value.ref l))) s) :=
  .of_wp fun prog w A F s h => by
    obtain ⟨hp, g, d, tk, os⟩ := s
    obtain ⟨hl, h⟩ := h
    have f1 := AutoSeq1.idx_int
    wp_walk using wpAny_loadPart' hl
    refine wpAny_ite_false (decide_eq_false (by rw [c0]; exact Bool.false_ne_true)) ?_
    wp_walk using wpAny_loadPart' hl
    exact ⟨_, rfl, h⟩
def rRepZ (K : PySem.W.Frag) : R2 := fun x y H Q => ∃ l k, x = .ref l ∧ y = .int k ∧ SqT K H l [] ∧ 2 ≤ k ∧ k ≤ 1000 ∧ Q (.ref l) H
theorem op_repZ : OpR X (binaryOp .Mult) (rRepZ X.K) := by
  intro pins s σ H x y v u Q I rx ry h
  obtain ⟨l, k, rfl, rfl, hT, h1, h2, q⟩ := h
  cases rx
  obtain ⟨t, rfl⟩ := ry
  obtain ⟨its, r, ⟨⟨cls, dd, data, sl⟩, ho, hc, n, hd⟩, hs⟩ := I.tuple hT
  simp only at hc hd
  subst hc hd
  cases r
  have c0 : (decide (k < -(2 ^ 63)) || decide (k ≥ 2 ^ 63)) = false := by
    rw [decide_eq_false (by omega), decide_eq_false (by omega)]
    rfl
  refine wpAny_binaryOp_repeat_ref (T := "tuple") (U := "int") (by decide) ⟨_, ho, rfl⟩ (fun s' => typeIs_int s' k t) noFill_tuple_mul F.fills_int_mul F.slot_int_rmul repeat_tuple F.slot_int_index.lookup ?_
  refine call_meets F.slot_int_rmul (typeIs_int s k t) F.entry_int_rmul (F.args_int_rmul_2 _ _) (int_rmul_tuple k t l #[] n dd sl) ⟨ho, rfl, ⟨_, ho, rfl⟩, ?_⟩
  refine call_meets F.slot_tuple_mul ⟨_, ho, rfl⟩ F.entry_tuple_mul (F.args_tuple_mul_2 _ _) (tuple_mulZ l n dd sl k t c0) ⟨ho, ?_⟩
  exact ⟨.ref l, H, I, rfl, q⟩
set_option maxHeartbeats 4000000 in
theorem tuple_mul1 (l : Addr) (its : Array Value) (n : Nat) (dd : Option Addr) (sl : Array (Option Value)) (u : Tok) :
    Meets (Builtin.«tuple.__mul__» ⟨[.ref l, .int 1 u], []⟩) (fun _ F s => s.heap.get? l = some { cls := .type "tuple", dict := dd, data := .seq its n, slots := sl } ∧ F (.ok (.ret (Value.ref l))) s) :=
  .of_wp fun prog w A F s h => by
    obtain ⟨hp, g, d, tk, os⟩ := s
    obtain ⟨hl, h⟩ := h
    have f1 := AutoSeq1.idx_int
    wp_walk using wpAny_loadPart' hl
    exact ⟨_, rfl, h⟩
def rRep1 (K : PySem.W.Frag) : R2 := fun x y H Q => ∃ l us, x = .ref l ∧ y = .int 1 ∧ SqT K H l us ∧ Q (.ref l) H
theorem op_rep1 : OpR X (binaryOp .Mult) (rRep1 X.K) := by
  intro pins s σ H x y v u Q I rx ry h
  obtain ⟨l, us, rfl, rfl, hT, q⟩ := h
  cases rx
  obtain ⟨t, rfl⟩ := ry
  obtain ⟨its, r, ⟨⟨cls, dd, data, sl⟩, ho, hc, n, hd⟩, hs⟩ := I.tuple hT
  simp only at hc hd
  subst hc hd
  refine wpAny_binaryOp_repeat_ref (T := "tuple") (U := "int") (by decide) ⟨_, ho, rfl⟩ (fun s' => typeIs_int s' 1 t) noFill_tuple_mul F.fills_int_mul F.slot_int_rmul repeat_tuple F.slot_int_index.lookup ?_
  refine call_meets F.slot_int_rmul (typeIs_int s 1 t) F.entry_int_rmul (F.args_int_rmul_2 _ _) (int_rmul_tuple 1 t l its.toArray n dd sl) ⟨ho, rfl, ⟨_, ho, rfl⟩, ?_⟩
  refine call_meets F.slot_tuple_mul ⟨_, ho, rfl⟩ F.entry_tuple_mul (F.args_tuple_mul_2 _ _) (tuple_mul1 l its.toArray n dd sl t) ⟨ho, ?_⟩
  exact ⟨.ref l, H, I, rfl, q⟩
def rRepW (K : PySem.W.Frag) : R2 := fun x y H Q => ∃ l k xs, x = .ref l ∧ y = .int k ∧ SqT K H l xs ∧ xs ≠ [] ∧ 2 ≤ k ∧ k ≤ 1000 ∧ xs.length ≤ 10000 ∧ ∀ p, H p = none → Q (.ref p) (upd H p (.tup (List.replicate k.toNat xs).flatten))
theorem op_repW : OpR X (binaryOp .Mult) (rRepW X.K) := by
  intro pins s σ H x y v u Q I rx ry h
  obtain ⟨l, k, xs, rfl, rfl, hT, hne, h1, h2, hz, q⟩ := h
  cases rx
  obtain ⟨t, rfl⟩ := ry
  obtain ⟨its, r, ⟨⟨cls, dd, data, sl⟩, ho, hc, n, hd⟩, hs⟩ := I.tuple hT
  simp only at hc hd
  subst hc hd
  have hle : its.length = xs.length := r.length.symm
  have hn : its ≠ [] := fun e => hne (by
    rw [e] at hle
    exact List.eq_nil_of_length_eq_zero hle.symm)
  have hi : its.toArray.isEmpty = false := by
    cases its with
    | nil => exact absurd rfl hn
    | cons a b => rfl
  have hsz0 : its.toArray.size = xs.length := by rw [List.size_toArray, hle]
  have hm : ((its.toArray.size : Nat) : Int) * k ≤ 10000000 := by
    rw [hsz0]
    have a1 : ((xs.length : Nat) : Int) * k ≤ 10000 * k := Int.mul_le_mul_of_nonneg_right (by omega) (by omega)
    omega
  have flen : (List.replicate k.toNat its).flatten.length ≤ sizeLine := by
    rw [PyProof.Rows.lm_len_rep_flat, hle, sizeLine_eq]
    have a1 : k.toNat * xs.length ≤ 1000 * 10000 := Nat.mul_le_mul (by omega) hz
    omega
  have c0 : (decide (k < -(2 ^ 63)) || decide (k ≥ 2 ^ 63)) = false := by
    rw [decide_eq_false (by omega), decide_eq_false (by omega)] <;> rfl
  have c1 : (its.toArray.isEmpty || k == 1) = false := by
    rw [hi, Bool.false_or]
    exact beq_eq_false_iff_ne.mpr (by omega)
  have c2 : (decide (k ≤ 0) || its.toArray.isEmpty) = false := by
    rw [hi, Bool.or_false]
    exact decide_eq_false (by omega)
  have c4 : Builtin.Tuple.tupleTooMany (((its.toArray.size : Nat) : Int) * k) = false := by
    unfold Builtin.Tuple.tupleTooMany
    rw [sizeLine_eq]
    exact decide_eq_false (by omega)
  refine wpAny_binaryOp_repeat_ref (T := "tuple") (U := "int") (by decide) ⟨_, ho, rfl⟩ (fun s' => typeIs_int s' k t) noFill_tuple_mul F.fills_int_mul F.slot_int_rmul repeat_tuple F.slot_int_index.lookup
    (call_meets F.slot_int_rmul (typeIs_int s k t) F.entry_int_rmul (F.args_int_rmul_2 _ _) (int_rmul_tuple k t l its.toArray n dd sl)
      ⟨ho, rfl, ⟨_, ho, rfl⟩, call_meets F.slot_tuple_mul ⟨_, ho, rfl⟩ F.entry_tuple_mul (F.args_tuple_mul_2 _ _) (tuple_mulW l its.toArray n dd sl k t c0 c1 c2 (by omega) c4 (by rw [size_rep, List.size_toArray]; exact flen)) ⟨ho, ?_⟩⟩)
  rw [size_rep]
  refine ⟨.ref s.heap.objs.size, _, I.laid (t' := s.toks) (o := .tup (List.replicate k.toNat xs).flatten) (fun b ob q => Heap.get?_push_of_some _ q) (Nat.le_refl _) ?_, rfl, q _ (I.hok.fresh (Nat.le_refl _))⟩
  exact ⟨by rw [PyProof.Rows.lm_len_rep_flat, sizeLine_eq]; have a1 : k.toNat * xs.length ≤ 1000 * 10000 := Nat.mul_le_mul (by omega) hz; omega, _, r.rep k.toNat, IsTup.new _ _⟩
noncomputable def iMulT : PyData → PyData → Option PyData
  | .tuple ps, .int k => if k = 1 then some (.tuple ps) else if 2 ≤ k ∧ k ≤ 1000 ∧ ps.length ≤ 10000 then some (.tuple (List.replicate k.toNat ps).flatten) else none
  | a, b => iMul a b
noncomputable def dMul : D → D → S → R D := pp2 iMulT
theorem o_mulT : Op2 X (binaryOp .Mult) dMul := by
  refine ⟨_, ((op_mul.or op_repW).or op_repZ).or op_rep1, link_pp2 fun WE c a b x v1 v2 Q rr q1 q2 e h => ?_⟩
  unfold iMulT at e
  split at e
  · rename_i ps k
    split at e
    · rename_i h1
      cases e
      subst h1
      obtain ⟨t, us, rfl, k1, k2⟩ := rp_tup q1
      exact .inr ⟨t, us, rfl, rp_int q2, k1, h.p rr q1⟩
    split at e
    · rename_i hz
      cases e
      obtain ⟨t, us, rfl, k1, k2⟩ := rp_tup q1
      by_cases z : ps = []
      · subst z
        have hu : us = [] := List.length_eq_zero_iff.mp k2.length.symm
        subst hu
        refine .inl <| .inr ⟨t, k, rfl, rp_int q2, k1, hz.1, hz.2.1, h.p rr ?_⟩
        have : (List.replicate k.toNat ([] : List PyData)).flatten = [] := by simp
        rw [this]
        exact q1
      · refine .inl <| .inl (.inr ⟨t, k, us, rfl, rp_int q2, k1, fun y => ?_, hz.1, hz.2.1, by rw [← k2.length]; exact hz.2.2, fun p np => h.tup rr (k2.rep _) np⟩)
        have := k2.length
        rw [y] at this
        exact z (List.length_eq_zero_iff.mp this)
    · cases e
  · unfold iMul at e
    split at e
    · split at e
      · rename_i hz
        cases e
        exact .inl <| .inl (.inl ⟨_, _, rp_int q1, rp_int q2, by rw [mulOk_seal] at hz; exact (of_decide_eq_true hz :), h.p rr mk_int⟩)
      · cases e
    · cases e

/-! ### methods of built-in types -/
def isTy (T : String) (d : D) (s : S) : Bool := match d with
  | .p (.str _) => T == "str"
  | .p (.list _) => T == "list"
  | .ref i => (match s.g[i]? with
    | some (some (.lst _)) => T == "list"
    | some (some (.dct _)) => T == "dict"
    | some (some (.dcT _)) => T == "dict"
    | _ => false)
  | _ => false
theorem isTy_ok {Y : Md} {c : Cf} {d : D} {v : V} {T : String} (rr : Rel Y c) (q : rd Y c d v) (e : isTy T d c.s = true) : tyV Y.K T v c.H := by
  unfold isTy at e
  split at e
  · rw [rd_str q]; exact beq_iff_eq.mp e
  · obtain ⟨a, vs, rfl, h1, _⟩ := rd_lst q
    exact .inl ⟨beq_iff_eq.mp e, vs, h1.sq⟩
  · rename_i i
    split at e
    · rename_i xs ex
      obtain ⟨a, ea, vs, ev, qs⟩ := rr.g i _ ex
      obtain ⟨a', ea', rfl⟩ := q
      rw [ea] at ea'; cases ea'
      exact .inl ⟨beq_iff_eq.mp e, vs, SqL.of ev⟩
    · rename_i xs ex
      obtain ⟨a, ea, l, ev, _⟩ := rr.g i _ ex
      obtain ⟨a', ea', rfl⟩ := q
      rw [ea] at ea'; cases ea'
      exact .inr (.inr (.inl ⟨beq_iff_eq.mp e, .inl ⟨_, ev⟩⟩))
    · rename_i xs ex
      obtain ⟨a, ea, l, ev, _⟩ := rr.g i _ ex
      obtain ⟨a', ea', rfl⟩ := q
      rw [ea] at ea'; cases ea'
      exact .inr (.inr (.inl ⟨beq_iff_eq.mp e, .inr ⟨_, ev⟩⟩))
    · cases e
  · cases e
def LinkM (Y : Md) (f : D → List D → S → R D) (r : V → List V → Hp → VK → Prop) : Prop := ∀ WE c d ds v vs Q, Rel Y c → rd Y c d v → rds Y c ds vs → Post Y (rd Y) WE c (f d ds c.s) Q → r v vs c.H Q
def MethX (X : Cx) (id : String) (f : D → List D → S → R D) : Prop := ∃ r, MtR X id r ∧ LinkM (yx X) f r
def mMeth (T : String) (f : D → List D → S → R D) (ma : ME) (ms : MA) : ME := fun env s => (ma env s).bind fun d s1 => if isTy T d s1 then (ms env s1).bind fun ds s2 => f d ds s2 else .bad
section
variable {o e : Expr} {mo : ME} {name : Str} {apos cpos : Pos} {T id : String} {f : D → List D → S → R D}
theorem e_meth (pa : PlainAttrs T) (slot : Slot T name id) (hty : typeOf (.builtin id) = pure (.type "method_descriptor")) (hm : MethX X id f) (ho : PE X o (LE X W mo)) (ha : PA X (e :: es) (LA X W ms))
    (hbase : attributeBase o name X.env (eval o X.env) = eval o X.env := by rfl)
    (hfew : ((backTo cpos (starEach (e :: es) X.env)).all (fun x => !x.1) && (backToKw cpos (keywordEach [] X.env)).all (fun x => x.1.isSome) && decide ((e :: es).length + ([] : List Keyword).length + (if ([] : List Keyword).isEmpty then 0 else 1) < 30)) = true := by rfl)
    (hline : (apos.endLine == cpos.line) = true := by rfl) (hs : starEach (e :: es) X.env = (false, eval e X.env) :: starEach es X.env := by rfl) (hplain : (backTo cpos (starEach es X.env)).any (·.1) = false := by rfl) :
    PE X (.Call (.Attribute o name apos) (e :: es) [] cpos) (LE X W (mMeth T f mo ms)) := by
  obtain ⟨r, hr, hl⟩ := hm
  refine (pe_bm pa slot hty hr ho ha hbase hfew hline hs hplain).imp fun σ H Q ⟨env, c, e, re, rr, h⟩ => ⟨env, c, e, re, rr, h.bind fun d v c1 s1 r1 q1 h1 => ?_⟩
  split at h1
  · rename_i ht
    exact ⟨isTy_ok r1 q1 ht, env, c1, rfl, re.step rr s1, r1, h1.bind fun ds vs c2 s2 r2 q2 h2 => hl _ c2 d ds v vs Q r2 (q1.step r1 s2) q2 h2⟩
  · exact h1.elim
theorem e_meth0 (pa : PlainAttrs T) (slot : Slot T name id) (hty : typeOf (.builtin id) = pure (.type "method_descriptor")) (hm : MethX X id f) (ho : PE X o (LE X W mo))
    (h : PE X (.Call (.Attribute o name apos) [] [] cpos) (LE X W (mMeth T f mo mNil))) : PE X (.Call (.Attribute o name apos) [] [] cpos) (LE X W (mMeth T f mo mNil)) := h
end
/-- an own list is changed -/
theorem Post.put {Y : Md} {WE : Value → Option Addr → Hp → Prop} {c : Cf} {i : Nat} {a : Addr} {ds ds' : List D} {us vs : List V} {x : PyData} {v : V} {Q : VK} (h : Post Y (rd Y) WE c (.ok (.p x) { c.s with g := c.s.g.set i (some (.lst ds')) }) Q) (r : Rel Y c) (h0 : c.s.g[i]? = some (some (.lst ds))) (ha : c.m[i]? = some a)
    (hv : c.H a = some (.lst us)) (q : RDs Y c.m c.o c.H ds' vs) (qx : RP Y.K c.H x v) : Q v (upd c.H a (.lst vs)) := by
  have st : Stay c.H (upd c.H a (.lst vs)) := stay_poke fun w e => by rw [hv] at e; cases e; trivial
  refine h v (c.put i a (.lst vs) (some (.lst ds'))) rfl (Stp.put h0 ha) (r.put h0 ha (fun y e => ?_) st) (qx.stay st)
  cases e
  exact ⟨vs, upd_same, RDs.up (fun _ _ z => z) (fun _ _ z => z) st q⟩
def fAppend : D → List D → S → R D := fun d ds s => match d, ds with
  | .ref i, [x] => (match s.g[i]? with
    | some (some (.lst xs)) => if sizeOk (xs.length + 1) then .ok (.p .none) { s with g := s.g.set i (some (.lst (xs ++ [x]))) } else .bad
    | _ => .bad)
  | _, _ => .bad
theorem m_append : MethX X "list.append" fAppend := ⟨_, mt_append, fun WE c d ds v vs Q rr q1 q2 h => by
  unfold fAppend at h
  split at h
  · rename_i i x
    split at h
    · rename_i xs ex
      split at h
      · rename_i hz
        obtain ⟨a, ea, us, ev, qs⟩ := rr.g i _ ex
        obtain ⟨a', ea', rfl⟩ := q1
        rw [ea] at ea'; cases ea'
        obtain ⟨u, rfl, qu⟩ := rds1 q2
        have hz' : xs.length + 1 ≤ sizeLine := of_decide_eq_true hz
        exact ⟨a, us, u, rfl, rfl, ev, by rw [← Paired.length qs]; omega, h.put rr ex ea ev (Paired.app qs (.cons qu .nil)) mk_none⟩
      · exact h.elim
    · exact h.elim
  · exact h.elim⟩
theorem e_append {o e : Expr} {mo : ME} {apos cpos : Pos} (ho : PE X o (LE X W mo)) (ha : PA X [e] (LA X W ms)) (hbase : attributeBase o "append" X.env (eval o X.env) = eval o X.env := by rfl)
    (hfew : ((backTo cpos (starEach [e] X.env)).all (fun x => !x.1) && (backToKw cpos (keywordEach [] X.env)).all (fun x => x.1.isSome) && decide ([e].length + ([] : List Keyword).length + (if ([] : List Keyword).isEmpty then 0 else 1) < 30)) = true := by rfl)
    (hline : (apos.endLine == cpos.line) = true := by rfl) (hs : starEach [e] X.env = (false, eval e X.env) :: starEach [] X.env := by rfl) : PE X (.Call (.Attribute o "append" apos) [e] [] cpos) (LE X W (mMeth "list" fAppend mo ms)) :=
  e_meth PySem.F.plainAttrs_list PySem.F.slot_list_append PySem.F.type_list_append m_append ho ha hbase hfew hline hs

/-! ### o[i] = e -/
def setIx (o i d : D) (s : S) : Option S := match o, i with
  | .ref j, .p (.int k) => (match s.g[j]? with
    | some (some (.lst xs)) => (ixN xs.length k).map fun n => { s with g := s.g.set j (some (.lst (xs.set n d))) }
    | _ => none)
  | _, _ => none
def gIx (mo mi : ME) : MG := fun d env s => (mo env s).bind fun o s1 => (mi env s1).bind fun i s2 => match setIx o i d s2 with
  | some s3 => .ok env s3
  | none => .bad
theorem Paired.set {α β : Type} {F : α → β → Prop} {l1 : List α} {m1 : List β} {x : α} {y : β} (p : Paired F l1 m1) (q : F x y) : ∀ n : Nat, Paired F (l1.set n x) (m1.set n y) := by
  induction p with
  | nil => intro n; exact .nil
  | cons q' t ih =>
    intro n
    cases n with
    | zero => exact .cons q t
    | succ n => exact .cons q' (ih n)
/-- how the model stores at an index -/
def AsgIx (X : Cx) (o i : Expr) (pos : Pos) : Prop := ∀ v, assign (.Subscript o i pos) X.env v = (do let ov ← holding [v] (eval o X.env); let iv ← holding [v, ov] (eval i X.env); standAt pos; holding [v, ov, iv] (setItem ov iv v); release [v, ov, iv] [])
theorem g_ix {o i : Expr} {mo mi : ME} (ho : PE X o (LE X W mo)) (hi : PE X i (LE X W mi)) (ha : AsgIx X o i pos := by intro _; rfl) : PG X (.Subscript o i pos) (LG X W (gIx mo mi)) := by
  refine (pg_sub ho hi set_list ha).imp fun v σ H Q ⟨d, env, c, e, re, r, q, h⟩ => ?_
  refine ⟨env, c, e, re, r, h.bind fun o' vo c1 s1 r1 q1 h1 => ⟨env, c1, rfl, re.step r s1, r1, h1.bind fun i' vi c2 s2 r2 q2 h2 => ?_⟩⟩
  split at h2
  · rename_i s3 e3
    unfold setIx at e3
    split at e3
    · rename_i j k
      split at e3
      · rename_i xs ex
        obtain ⟨n, en, e4⟩ := Option.map_eq_some_iff.mp e3
        subst e4
        obtain ⟨a, ea, us, ev, qs⟩ := r2.g j _ ex
        obtain ⟨a', ea', rfl⟩ := q1.step r1 s2
        rw [ea] at ea'; cases ea'
        have st : Stay c2.H (upd c2.H a (.lst (us.set n v))) := stay_poke fun w e => by rw [ev] at e; cases e; trivial
        refine ⟨a, us, k, n, rfl, rd_int q2, ev, by rw [← Paired.length qs]; exact en, ?_⟩
        have qv := (q.step r s1).step r1 s2
        refine h2 σ (c2.put j a (.lst (us.set n v)) (some (.lst (xs.set n d)))) rfl (Stp.put ex ea) (r2.put ex ea (fun y e => ?_) st) ?_
        · cases e
          exact ⟨_, upd_same, RDs.up (fun _ _ z => z) (fun _ _ z => z) st (Paired.set qs qv n)⟩
        · exact ((re.step r s1).step r1 s2).step r2 (Stp.put ex ea)
      · cases e3
    · cases e3
  · exact h2.elim

/-! ### x op= e -/
def sAug (i : Nat) (f : D → D → S → R D) (ma : ME) : MS := fun env s => match env[i]? with
  | some (some d) => (ma env s).thn env fun d2 s1 => (f d d2 s1).thn env fun d3 s2 => .nx (env.set i (some d3)) s2
  | _ => .bad
theorem s_aug {i : Nat} {x : Str} {op : Operator} {f : D → D → S → R D} {pos' : Pos} (hN : X.N.Nodup) (ho : Op2 X (inplaceOp op) f) (ha : PE X a (LE X W ma)) (hi : X.N[i]? = some x := by rfl) (hx : Loc X.env.scope x := by first | exact Or.inl rfl | exact Or.inr rfl)
    (hf : X.fn x = true ∨ X.env.scope.names.lookup x = some .local := by first | exact .inl rfl | exact .inr rfl) : PS X (.AugAssign (.Name x pos') op a pos) (LS X W (sAug i f ma)) := by
  obtain ⟨r, hr, hl⟩ := ho
  refine (ps_aug (ti := r) hN hi hx ha (fun pins s σ H x y v u Q I rx ry q => hr pins s σ H x y v u Q I rx ry q) hf).imp fun D σ H ⟨env, c, e, re, rr, h⟩ => ?_
  unfold sAug at h
  split at h
  · rename_i d ed
    obtain ⟨v, ev, q⟩ := re.2 i d ed
    refine ⟨v, ev, env, c, e, re, rr, h.bind (RA := rd (yx X)) re rr fun d2 v2 c1 s1 r1 q1 h1 => ?_⟩
    refine hl (fun cv dx H' => W cv dx σ H') c1 d d2 v v2 _ r1 (q.step rr s1) q1 ?_
    exact h1.bind (RA := rd (yx X)) (re.step rr s1) r1 fun d3 v3 c2 s2 r2 q3 h2 => h2 _ c2 rfl Stp.refl r2 (((re.step rr s1).step r1 s2).set i q3)
  · exact h.elim
end
end Mp

/-! MP, part J: a dict display, what is handed back, defs as facts, the well. -/
namespace Mp
open PySem PySem.Spec PyProof.Rows L2
section
variable {X : Cx} {W : WX} {pos : Pos} {a b : Expr} {ma mb : ME} {es : List Expr} {ms : MA}

/-! ### {k: e, ..}, the keys written, unlike; it stands for good -/
def DP (X : Cx) (W : WX) (pos : Pos) (keys : List (Option Expr)) (values : List Expr) (ks : List L2.Key) (ms : MA) : Prop :=
  ∃ trs, PPs X pos keys values trs ∧ ∀ σ H Q, LA X W ms σ H (fun us H' => us.length = ks.length → Q (List.zip (ks.map kV) us) H') → tPairs trs σ H Q
theorem dp_nil : DP X W pos [] [] [] mNil := ⟨[], pps_nil, fun σ H Q ⟨env, c, e, re, r, h⟩ => by
  subst e
  exact Post.here (Y := yx X) (RA := rds (yx X)) (a := []) (b := []) h r .nil rfl⟩
theorem dp_of {keys : List (Option Expr)} {values : List Expr} {ks : List L2.Key} {k : L2.Key} {ke ve : Expr} {mv : ME} (hk : PE X ke (tC (kV k))) (hv : PE X ve (LE X W mv)) (hr : DP X W pos keys values ks ms) : DP X W pos (some ke :: keys) (ve :: values) (k :: ks) (mCons mv ms) := by
  obtain ⟨trs, h1, h2⟩ := hr
  refine ⟨_, pps_cons hk hv h1, fun σ H Q ⟨env, c, e, re, r, h⟩ => ⟨env, c, e, re, r, h.bind fun d v c1 s1 r1 q1 h3 => h2 σ c1.H _ ⟨env, c1, rfl, re.step r s1, r1, h3.bind fun ds vs c2 s2 r2 q2 h4 => fun hl => ?_⟩⟩⟩
  exact Post.here (Y := yx X) (RA := rds (yx X)) h4 r2 (.cons (q1.step r1 s2) q2) (by simp [hl])
theorem dp_str {keys : List (Option Expr)} {values : List Expr} {ks : List L2.Key} {x : Str} {j : Nat} {p2 : Pos} {ve : Expr} {mv : ME} (hv : PE X ve (LE X W mv)) (hr : DP X W pos keys values ks ms) : DP X W pos (some (.Constant (.str x) j p2) :: keys) (ve :: values) (.inr x :: ks) (mCons mv ms) := dp_of (k := .inr x) pe_str hv hr
theorem dp_int {keys : List (Option Expr)} {values : List Expr} {ks : List L2.Key} {x : Int} {j : Nat} {p2 : Pos} {ve : Expr} {mv : ME} (hv : PE X ve (LE X W mv)) (hr : DP X W pos keys values ks ms) : DP X W pos (some (.Constant (.int x) j p2) :: keys) (ve :: values) (.inl x :: ks) (mCons mv ms) := dp_of (k := .inl x) pe_int hv hr
def mDictF (ks : List L2.Key) (ms : MA) : ME := fun env s => (ms env s).bind fun ds s1 => match allP ds with
  | some ps => if ps.length = ks.length then .ok (.p (.dict (List.zip (ks.map keyD) ps))) s1 else .bad
  | none => .bad
theorem putK_new {kvs : List (L2.Key × V)} {k : L2.Key} {v : V} (h : k ∉ kvs.map (·.1)) : putK kvs k v = kvs ++ [(k, v)] := by
  unfold putK
  rw [if_neg]
  rw [List.any_eq_true]
  rintro ⟨p, hp, e⟩
  exact h (List.mem_map.mpr ⟨p, hp, of_decide_eq_true e⟩)
theorem Post.bind0 {α β γ δ : Type} {Y : Md} {RA : Cf → α → β → Prop} {RC : Cf → γ → δ → Prop} {WE : Value → Option Addr → Hp → Prop} {c0 c : Cf} {ra : R α} {f : α → S → R γ} {Q : δ → Hp → Prop} {Q1 : β → Hp → Prop} (h : Post Y RC WE c0 (ra.bind f) Q) (s : Stp c0 c)
    (k : ∀ a b c1, Stp c c1 → Rel Y c1 → RA c1 a b → Post Y RC WE c0 (f a c1.s) Q → Q1 b c1.H) : Post Y RA WE c ra Q1 := by
  cases ra with
  | ok a s' => exact fun b c2 e s2 r2 ra => k a b c2 s2 r2 ra (by rw [e]; exact h)
  | ex x fs s' => exact fun cv dx c2 e s2 r2 xr => h cv dx c2 e (s.trans s2) r2 xr
  | bad => exact h
theorem mergeK_new : ∀ {more kvs : List (L2.Key × V)}, (kvs.map (·.1) ++ more.map (·.1)).Nodup → mergeK kvs more = kvs ++ more
  | [], kvs, _ => by simp [mergeK]
  | (k, v) :: r, kvs, h => by
    have hk : k ∉ kvs.map (·.1) := fun e => by
      rw [List.nodup_append] at h
      exact h.2.2 k e k (by simp) rfl
    have : mergeK kvs ((k, v) :: r) = mergeK (putK kvs k v) r := rfl
    rw [this, putK_new hk, mergeK_new]
    · simp
    · simpa using h
theorem zip_rpd {K : PySem.W.Frag} {H : Hp} : ∀ {ks : List L2.Key} {ps : List PyData} {us : List V}, ps.length = ks.length → RPs K H ps us → RPd K H (List.zip (ks.map keyD) ps) ((List.zip ks us).map fun p => (keyD p.1, p.2))
  | [], [], _, _, h => by simp only [RPs] at h; subst h; simp [RPd]
  | [], _ :: _, _, e, _ => by simp at e
  | _ :: _, [], _, e, _ => by simp at e
  | k :: ks, p :: ps, _, e, h => by
    simp only [RPs] at h
    obtain ⟨v, r, rfl, h1, h2⟩ := h
    simp only [List.map_cons, List.zip_cons_cons, RPd]
    exact ⟨v, _, rfl, h1, zip_rpd (by simpa using e) h2⟩
theorem e_dictF {keys : List (Option Expr)} {values : List Expr} {ks : List L2.Key} (h : DP X W pos keys values ks ms) (hn : ks.Nodup) (h15 : ks.length ≤ 15) (hall : keys.all (·.isSome) = true := by rfl) (hl : keys.length = values.length := by rfl) (h0 : keys ≠ [] := by intro z; cases z) (hk15 : keys.length ≤ 15 := by decide) :
    PE X (.Dict keys values pos) (LE X W (mDictF ks ms)) := by
  obtain ⟨trs, h1, h2⟩ := h
  refine ((pe_disp h1 hall hl h0 hk15).fz).imp fun σ H Q ⟨env, c, e, re, r, h⟩ => fun p np => ?_
  subst e
  have st : Stp c (c.at p (.dK [])) := Stp.at np
  have r' := r.at (u := .dK []) np
  refine h2 σ _ _ ⟨env, c.at p (.dK []), rfl, re.step r st, r', ?_⟩
  have nO' : ¬ (c.at p (.dK [])).Own p := r.freshOwn np
  refine h.bind0 (RA := rds (yx X)) st fun ds us c1 s1 r1 q1 h3 => fun hlen => ?_
  have hD : c1.H p = some (.dK []) := s1.ext p _ upd_same nO'
  have nO : ¬ c1.Own p := fun z => by
    rcases s1.own p z with z | z
    · exact nO' z
    · rw [show (c.at p (.dK [])).H p = some (.dK []) from upd_same] at z; cases z
  cases e2 : allP ds with
  | none => rw [e2] at h3; exact h3.elim
  | some ps =>
    rw [e2] at h3
    simp only at h3
    split at h3
    · rename_i hps
      have q2 := allP_ok q1 e2
      refine ⟨hD, List.zip ks us, ?_, by rw [List.length_zip]; omega, ?_⟩
      · have : ∀ (ks : List L2.Key) (us : List V), List.zip (ks.map kV) us = (List.zip ks us).map fun kv => (kV kv.1, kv.2) := by
          intro ks
          induction ks with
          | nil => intro us; simp
          | cons k ks ih => intro us; cases us with
            | nil => simp
            | cons u us => simp [ih]
        exact this ks us
      · have hks : (List.zip ks us).map (·.1) = ks := by
          rw [List.map_fst_zip]
          omega
        rw [mergeK_new (by simpa [hks] using hn)]
        simp only [List.nil_append]
        refine .one p (.dK (List.zip ks us)) upd_same trivial fun o => .done ?_
        rw [upd_upd]
        have stay : Stay c1.H (upd c1.H p (.frz o (.dK (List.zip ks us)))) := stay_poke fun w e => by rw [hD] at e; cases e; trivial
        refine h3 (.ref p) { c1 with H := upd c1.H p (.frz o (.dK (List.zip ks us))) } rfl ?_ (r1.poke hD trivial nO) ?_
        · exact (st.trans s1).poke (.inl np)
        · show RP X.K _ (.dict _) (.ref p)
          simp only [RP]
          exact ⟨p, _, rfl, ⟨o, _, upd_same, rfl⟩, RPd.stay stay (zip_rpd hps q2)⟩
    · exact h3.elim

/-! ### what is handed back stands for good -/
/-- a dict's pairs, all pure data -/
def allKP : List (L2.Key × D) → Option (List (PyData × PyData))
  | [] => some []
  | (k, .p x) :: r => (allKP r).map ((keyD k, x) :: ·)
  | _ :: _ => none
theorem allKP_ok {Y : Md} {m o : List Addr} {H : Hp} : ∀ {ds : List (L2.Key × D)} {l : List (L2.Key × V)} {ps : List (PyData × PyData)}, Paired (fun (p : L2.Key × D) (q : L2.Key × V) => p.1 = q.1 ∧ RD Y m o H p.2 q.2) ds l → allKP ds = some ps → RPd Y.K H ps (l.map fun p => (keyD p.1, p.2))
  | [], _, ps, .nil, e => by simp [allKP] at e; subst e; simp [RPd]
  | (k, .p x) :: r, _, ps, .cons q t, e => by
    simp only [allKP, Option.map_eq_some_iff] at e
    obtain ⟨ps', e1, rfl⟩ := e
    simp only [RPd, List.map_cons]
    exact ⟨_, _, by rw [← q.1], q.2, allKP_ok t e1⟩
  | (_, .ref _) :: _, _, _, .cons _ _, e => by simp [allKP] at e
  | (_, .well _) :: _, _, _, .cons _ _, e => by simp [allKP] at e
  | (_, .fn _) :: _, _, _, .cons _ _, e => by simp [allKP] at e
def frzD (d : D) (s : S) : R D := match d with
  | .p x => .ok (.p x) s
  | .ref i => (match s.g[i]? with
    | some (some (.lst ds)) => (match allP ds with
      | some ps => .ok (.p (.list ps)) { s with g := s.g.set i none }
      | none => .bad)
    | some (some (.dct ds)) => (match allKP ds with
      | some ps => .ok (.p (.dict ps)) { s with g := s.g.set i none }
      | none => .bad)
    | _ => .bad)
  | _ => .bad
def mFrz (ma : ME) : ME := fun env s => (ma env s).bind frzD
theorem e_frz {e : Expr} (ha : PE X e (LE X W ma)) : PE X e (LE X W (mFrz ma)) := by
  refine (ha.fz).imp fun σ H Q ⟨env, c, e, re, r, h⟩ => ⟨env, c, e, re, r, h.bind fun d v c1 s1 r1 q1 h1 => ?_⟩
  unfold frzD at h1
  split at h1
  · exact .done (h1.p r1 q1)
  · rename_i i
    split at h1
    · rename_i ds ex
      split at h1
      · rename_i ps ep
        obtain ⟨a, ea, us, ev, qs⟩ := r1.g i _ ex
        obtain ⟨a', ea', rfl⟩ := q1
        rw [ea] at ea'; cases ea'
        refine .one a (.lst us) ev trivial fun o => .done ?_
        have st : Stay c1.H (upd c1.H a (.frz o (.lst us))) := stay_poke fun w e => by rw [ev] at e; cases e; trivial
        refine h1 (.ref a) (c1.put i a (.frz o (.lst us)) none) rfl (Stp.put ex ea) (r1.put ex ea (fun y e => by cases e) st) ?_
        show RP X.K (upd c1.H a (.frz o (.lst us))) (.list ps) (.ref a)
        simp only [RP]
        exact ⟨a, us, rfl, .inl ⟨o, upd_same⟩, RPs.stay st (allP_ok qs ep)⟩
      · exact h1.elim
    · rename_i ds ex
      split at h1
      · rename_i ps ep
        obtain ⟨a, ea, us, ev, qs⟩ := r1.g i _ ex
        obtain ⟨a', ea', rfl⟩ := q1
        rw [ea] at ea'; cases ea'
        refine .one a (.dK us) ev trivial fun o => .done ?_
        have st : Stay c1.H (upd c1.H a (.frz o (.dK us))) := stay_poke fun w e => by rw [ev] at e; cases e; trivial
        refine h1 (.ref a) (c1.put i a (.frz o (.dK us)) none) rfl (Stp.put ex ea) (r1.put ex ea (fun y e => by cases e) st) ?_
        show RP X.K (upd c1.H a (.frz o (.dK us))) (.dict ps) (.ref a)
        simp only [RP]
        exact ⟨a, _, rfl, ⟨o, us, upd_same, rfl⟩, RPd.stay st (allKP_ok qs ep)⟩
      · exact h1.elim
    · exact h1.elim
  · exact h1.elim
end

/-! ### defs as facts -/
/-- the module's def x keeps the promise of the mirror m (n arguments), at level k -/
def DefOk (P : Program) (w : World) (K : PySem.W.Frag) (mg : Str → Option Value) (base : Heap) (x : Str) (k n : Nat) (m : List D → S → R D) : Prop :=
  ∃ (f : Addr) (fd : FuncData) (ps : List Str), FnOk P w K mg base (L2.CX P w) k f fd ps (spM ⟨K, mg⟩ n m) ∧ mg x = some (.ref f) ∧ PySem.W.keepIn K (.ref f) = true ∧ Binds K fd ps [] ∧ ps.length = n
/-- a def of the text as it stands behind the top -/
def DefAt (K : PySem.W.Frag) (mg : Str → Option Value) (x : Str) (st : Stmt) : Prop := ∃ (f : Addr) (fd : FuncData), FunD K x x (defArgs st) (defBody st) (defScope st) [] [] f fd ∧ mg x = some (.ref f)
theorem DefOk.mono {P : Program} {w : World} {K : PySem.W.Frag} {mg : Str → Option Value} {base : Heap} {x : Str} {j k n : Nat} {m : List D → S → R D} (h : DefOk P w K mg base x j n m) (hk : j ≤ k) : DefOk P w K mg base x k n m := by
  obtain ⟨f, fd, ps, F, h2⟩ := h
  exact ⟨f, fd, ps, F.mono hk, h2⟩
/-- how arguments bind -/
def BindN (x : Str) (st : Stmt) (ps : List Str) : Prop := ∀ (kV doc pm : Value) (an : Option Addr) (cdv ct : Value) (us : List Value), us.length = ps.length → bindArgs (PySem.W.fnOf x x (defArgs st) (defBody st) (defScope st) .none kV doc pm an cdv ct) ⟨us, []⟩ = pure (ps.zip us)
abbrev cxD (P : Program) (w : World) (K : PySem.W.Frag) (mg : Str → Option Value) (base : Heap) (N : List Str) (x : Str) (st : Stmt) (f : Addr) (cdv : Value) (A : Around) (outer : List Env) (s : Shared) (H : Hp) (E : XK) : Cx := cxOf (L2.CX P w) P w K mg base N x (defScope st) f cdv A outer s H E
theorem def_fn {P : Program} {w : World} {K : PySem.W.Frag} {mg : Str → Option Value} {base : Heap} {x : Str} {st : Stmt} {N ps : List Str} {k n z : Nat} {m : MS} (Sc : FnScope N ps (defScope st)) (hn : ps.length = n) (hz : N.length = z)
    (hm : ∀ (f : Addr) (cdv : Value) (A : Around) (outer : List Env) (s : Shared) (H : Hp) (E : XK), Room k (cxD P w K mg base N x st f cdv A outer s H E).A → N.Nodup → Takes (cxD P w K mg base N x st f cdv A outer s H E) (wOut E) →
      PassesOwn (model P w) (cxD P w K mg base N x st f cdv A outer s H E).A (cxD P w K mg base N x st f cdv A outer s H E).env (cxD P w K mg base N x st f cdv A outer s H E).xe →
      PSs (cxD P w K mg base N x st f cdv A outer s H E) (defBody st) (LS (cxD P w K mg base N x st f cdv A outer s H E) (wOut E) m)) :
    ∀ f fd, FunD K x x (defArgs st) (defBody st) (defScope st) [] [] f fd → FnOk P w K mg base (L2.CX P w) (k + 1) f fd ps (spM ⟨K, mg⟩ n (fnM n z m)) :=
  fun f fd F => fn_ok F Sc hn hz fun cdv A outer s H E hr => hm f cdv A outer s H E hr Sc.nd (takes_of rfl rfl rfl rfl) (passes_of rfl)
theorem def_mk {P : Program} {w : World} {K : PySem.W.Frag} {mg : Str → Option Value} {base : Heap} {x : Str} {st : Stmt} {N ps : List Str} {k n z : Nat} {m : MS} (h : DefAt K mg x st) (Sc : FnScope N ps (defScope st)) (hb : BindN x st ps) (hn : ps.length = n) (hz : N.length = z)
    (hm : ∀ (f : Addr) (cdv : Value) (A : Around) (outer : List Env) (s : Shared) (H : Hp) (E : XK), Room k (cxD P w K mg base N x st f cdv A outer s H E).A → N.Nodup → Takes (cxD P w K mg base N x st f cdv A outer s H E) (wOut E) →
      PassesOwn (model P w) (cxD P w K mg base N x st f cdv A outer s H E).A (cxD P w K mg base N x st f cdv A outer s H E).env (cxD P w K mg base N x st f cdv A outer s H E).xe →
      PSs (cxD P w K mg base N x st f cdv A outer s H E) (defBody st) (LS (cxD P w K mg base N x st f cdv A outer s H E) (wOut E) m)) :
    DefOk P w K mg base x (k + 1) n (fnM n z m) := by
  obtain ⟨f, fd, F, hf⟩ := h
  exact ⟨f, fd, ps, def_fn Sc hn hz hm f fd F, hf, F.kp, F.bindsN hb, hn⟩
/-! ### the end -/
theorem noCX {P : Program} {w : World} {l : List Env} {H : Hp} {s s' : Shared} {e : Value} (h : L2.CX P w l H s (fun _ _ _ => False) e s') : False := by
  obtain ⟨_, _, _, _, _, _, _, _, _, _, _, _, z⟩ := h
  exact z
/-- a def that lets nothing out -/
theorem fn_calm {P : Program} {w : World} {K : PySem.W.Frag} {mg : Str → Option Value} {base : Heap} {k : Nat} {f : Addr} {fd : FuncData} {ps : List Str} {sp : Sp} (F : FnOk P w K mg base (L2.CX P w) k f fd ps sp) : FnOk P w K mg base CX0 k f fd ps (fun vs H Q _ => sp vs H Q fun _ _ _ => False) := by
  refine ⟨fun vs H Q E h => F.len _ _ _ _ h, fun A outer s H args us vs Q E hr he hb hv hs => codeAny_mono (F.run A outer s H args us vs Q _ hr he hb hv hs) fun r s' hq => ?_⟩
  cases r with
  | error e => exact (noCX hq).elim
  | ok fl => cases fl <;> exact hq
theorem rps_ints {K : PySem.W.Frag} {H : Hp} : ∀ ns : List Int, RPs K H (ns.map PyData.int) (ns.map V.int)
  | [] => by simp [RPs]
  | n :: ns => by
    simp only [List.map_cons, RPs]
    exact ⟨_, _, rfl, mk_int, rps_ints ns⟩
theorem law_end {P : Program} {w : World} {K : PySem.W.Frag} {mg : Str → Option Value} {h : Heap} {st : Stmt} {fa : Addr} {k n : Nat} {x : Str} {m : List D → S → R D} (X : K.In h) (hd : DefAt K mg "law" st) (hb : BindN "law" st [x]) (hf : mg "law" = some (.ref fa))
    (F : ∀ base f fd, FunD K "law" "law" (defArgs st) (defBody st) (defScope st) [] [] f fd → FnOk P w K mg base (L2.CX P w) k f fd [x] (spM ⟨K, mg⟩ 1 m))
    (lt : ∀ ns : List Int, ns.length ≤ n → ∃ s', m [.p (.list (ns.map .int))] ⟨[], []⟩ = .ok (.p (.bool true)) s') :
    ∃ (K : PySem.W.Frag) (fd : FuncData) (sp : Sp), K.In h ∧ (∀ (s : Shared) (u : Value), BindsTo s fd ⟨[u], []⟩ [(x, u)]) ∧
        (∀ (H : Hp) (a : Addr) (ns : List Int), ns.length ≤ n → Only H → SqL K H a (ns.map V.int) → sp [.ref a] H (fun v _ => v = .bl true) fun _ _ _ => False) ∧
        ∀ base : Heap, K.In base → base.Ns mainGlobals mg → FnOk P w K mg base CX0 k fa fd [x] sp := by
  obtain ⟨f, fd, F1, hf1⟩ := hd
  rw [hf] at hf1
  cases hf1
  refine ⟨K, fd, fun vs H Q _ => spM ⟨K, mg⟩ 1 m vs H Q fun _ _ _ => False, X, fun s u => ?_, fun H a ns hl hO hS => ?_, fun base _ _ => fn_calm (F base _ _ F1)⟩
  · exact FunD.bindsA F1 hb s [u] rfl
  · refine ⟨rfl, [.p (.list (ns.map .int))], ⟨⟨[], []⟩, [], [], H⟩, rfl, ?_, .cons ?_ .nil, ?_⟩
    · refine ⟨fun i y e => by simp at e, fun i y e => by simp at e, rfl, rfl, fun i j y z b e => by simp at e, fun i j y z b e => by simp at e, fun b e => ?_⟩
      obtain ⟨i, y, e, _⟩ := e
      simp at e
    · show RP K H (.list (ns.map .int)) (.ref a)
      simp only [RP]
      refine ⟨a, _, rfl, ?_, rps_ints ns⟩
      rcases hS with (e | ⟨o, e⟩) | e
      · rcases hO a with z | ⟨o, xs, z⟩
        · rw [z] at e; cases e
        · rw [z] at e; cases e
      · exact .inl ⟨o, e⟩
      · exact .inr e
    · obtain ⟨s', e⟩ := lt ns hl
      show Post _ _ _ _ (m [.p (.list (ns.map .int))] ⟨[], []⟩) _
      rw [e]
      exact fun v c' _ _ _ q => rd_bool q
theorem ex_mem {α β : Type} [BEq α] [LawfulBEq α] : ∀ {l : List (α × β)} {x : α} {b : β}, l.lookup x = some b → (x, b) ∈ l
  | [], _, _, h => by cases h
  | (y, c) :: l, x, b, h => by
    unfold List.lookup at h
    split at h
    · rename_i e
      have := beq_iff_eq.mp e
      subst this
      cases h
      exact List.mem_cons_self
    · exact List.mem_cons_of_mem _ (ex_mem h)
/-- a mirror that says nothing -/
theorem def_zero {P : Program} {w : World} {K : PySem.W.Frag} {mg : Str → Option Value} {base : Heap} {x : Str} {st : Stmt} {ps : List Str} {k n : Nat} (h : DefAt K mg x st) (hb : BindN x st ps) (hn : ps.length = n) : DefOk P w K mg base x k n (fun _ _ => .bad) := by
  obtain ⟨f, fd, F, hf⟩ := h
  refine ⟨f, fd, ps, ⟨fun vs H Q E h => h.1.trans hn.symm, fun A outer s H args us vs Q E _ _ _ _ h => ?_⟩, hf, F.kp, F.bindsN hb, hn⟩
  obtain ⟨_, _, _, _, _, _, h⟩ := h
  exact h.elim
/-- a def that calls itself, so many times within itself -/
def recM (F : (List D → S → R D) → List D → S → R D) : Nat → List D → S → R D
  | 0 => fun _ _ => .bad
  | k + 1 => F (recM F k)
theorem def_rec {P : Program} {w : World} {K : PySem.W.Frag} {mg : Str → Option Value} {base : Heap} {x : Str} {st : Stmt} {ps : List Str} {n l : Nat} {F : (List D → S → R D) → List D → S → R D} (h : DefAt K mg x st) (hb : BindN x st ps) (hn : ps.length = n)
    (hs : ∀ k m, DefOk P w K mg base x (l + k) n m → DefOk P w K mg base x (l + k + 1) n (F m)) : ∀ k, DefOk P w K mg base x (l + k) n (recM F k)
  | 0 => def_zero h hb hn
  | k + 1 => hs k _ (def_rec h hb hn hs k)
section
variable {X : Cx} {W : WX} {pos : Pos} {ma mb : ME} {es : List Expr} {ms : MA}
/-- f(..) on the caller's small heap -/
theorem e_callS {k j n : Nat} {x : Str} {p : Pos} {e : Expr} {m : List D → S → R D} (F : DefOk X.prog X.w X.K X.mg X.base x j n m) (hr : Room k X.A) (hj : j ≤ k) (tk : Takes X W) (ha : PA X (e :: es) (LA X W ms)) (hl : ArgN ms n) (hg : Gl X x := by rfl)
    (hdb : (x == ("__debug__" : Str)) = false := by decide) (he : starEach (e :: es) X.env = (false, eval e X.env) :: starEach es X.env := by rfl) (hpl : (backTo pos (starEach es X.env)).any (·.1) = false := by rfl) :
    PE X (.Call (.Name x p) (e :: es) [] pos) (LE X W (mCall m ms)) := by
  obtain ⟨f, fd, ps, F1, F2, F3, F4, F5⟩ := F
  exact e_call F1 (hr.mono hj) hg F2 F3 F4 F5 tk ha hl hdb he hpl
/-- f(..) on a small heap of its own -/
theorem e_callA {k j n : Nat} {x : Str} {p : Pos} {e : Expr} {m : List D → S → R D} (F : DefOk X.prog X.w X.K X.mg X.base x j n m) (hr : Room k X.A) (hj : j ≤ k) (tk : Takes X W) (ha : PA X (e :: es) (LA X W ms)) (hl : ArgN ms n) (hg : Gl X x := by rfl)
    (hdb : (x == ("__debug__" : Str)) = false := by decide) (he : starEach (e :: es) X.env = (false, eval e X.env) :: starEach es X.env := by rfl) (hpl : (backTo pos (starEach es X.env)).any (·.1) = false := by rfl) :
    PE X (.Call (.Name x p) (e :: es) [] pos) (LE X W (mCall (pureRun m) ms)) := by
  obtain ⟨f, fd, ps, F1, F2, F3, F4, F5⟩ := F
  exact e_callP F1 (hr.mono hj) hg F2 F3 F4 tk ha hl hdb he hpl

/-! ### the well -/
def onlyD : List D → Bool
  | [] => true
  | .p _ :: ds => onlyD ds
  | _ => false
/-- a def that draws from the well: it runs on the well's heap alone; the first argument is the well -/
def drawRun (f : List D → S → R D) : List D → S → R D := fun ds s => match ds with
  | .well i :: r => if onlyD r then (match f (.ref i :: r) ⟨s.w, []⟩ with
    | .ok (.p x) ⟨g, []⟩ => .ok (.p x) ⟨s.g, g⟩
    | _ => .bad) else .bad
  | _ => .bad
/-- a def that makes the well -/
def wellRun (f : List D → S → R D) : List D → S → R D := fun ds s => if onlyD ds then (match s.w with
  | [] => (match f ds ⟨[], []⟩ with
    | .ok (.ref i) ⟨g, []⟩ => .ok (.well i) ⟨s.g, g⟩
    | _ => .bad)
  | _ => .bad) else .bad
def Cf.inW (c : Cf) : Cf := ⟨⟨c.s.w, []⟩, c.o, [], c.H⟩
def Cf.outW (c c2 : Cf) : Cf := ⟨⟨c.s.g, c2.s.g⟩, c.m, c2.m, c2.H⟩
theorem Rel.inW {Y : Md} {c : Cf} (r : Rel Y c) : Rel Y c.inW := by
  refine ⟨fun i x h => r.w i x h, fun i x h => by simp [Cf.inW] at h, r.wl, rfl, r.wi, fun i j x y a h => by simp [Cf.inW] at h, fun a _ h => ?_⟩
  obtain ⟨i, x, h, _⟩ := h
  simp [Cf.inW] at h
theorem own_inW {c : Cf} {a : Addr} (h : c.inW.Own a) : Alive c.s.w c.o a := by
  rcases h with h | ⟨i, x, h, _⟩
  · exact h
  · simp [Cf.inW] at h
theorem Rel.outW {Y : Md} {c c2 : Cf} (r : Rel Y c) (st : Stp c.inW c2) (r2 : Rel Y c2) (hw : c2.s.w = []) : Rel Y (c.outW c2) := by
  have stay : Stay c.H c2.H := st.stay r.inW
  have ho : c2.o = [] := List.length_eq_zero_iff.mp (by rw [r2.wl, hw]; rfl)
  have keep : ∀ a, Alive c.s.g c.m a → ∀ u, c.H a = some u → c2.H a = some u := fun a ha u h => st.ext a u h fun z => r.gw a ha (own_inW z)
  refine ⟨fun i x h => ?_, fun i x h => ?_, r.gl, r2.gl, r.gi, r2.gi, fun a h1 h2 => ?_⟩
  · obtain ⟨a, e, q⟩ := r.g i x h
    refine ⟨a, e, q.up (fun _ _ z => z) st.m stay (fun u hu => keep a ⟨i, x, h, e⟩ u hu) (fun d hd => st.ext d _ hd fun z => ?_)⟩
    exact r.inW.notOwn hd (fun z => z) z
  · have := r2.g i x h
    rw [ho] at this
    exact this
  · rcases st.own a (.inl h2) with z | z
    · exact r.gw a h1 (own_inW z)
    · obtain ⟨u, hu, _⟩ := r.own (.inl h1)
      have z' : c.H a = none := z
      rw [hu] at z'; cases z'
theorem Stp.outW {Y : Md} {c c2 : Cf} (r : Rel Y c) (st : Stp c.inW c2) : Stp c (c.outW c2) where
  m := fun _ _ h => h
  o := st.m
  own := fun a h => by
    rcases h with h | h
    · exact .inl (.inl h)
    · rcases st.own a (.inl h) with z | z
      · exact .inl (.inr (own_inW z))
      · exact .inr z
  ext := fun a u h n => st.ext a u h fun z => n (.inr (own_inW z))
theorem onlyD_any {Y : Md} {m m' o o' : List Addr} {H : Hp} : ∀ {ds : List D} {vs : List V}, onlyD ds = true → RDs Y m o H ds vs → RDs Y m' o' H ds vs
  | [], _, _, .nil => .nil
  | .p x :: ds, _, e, .cons q t => .cons q (onlyD_any (by simpa [onlyD] using e) t)
  | .fn x :: ds, _, e, .cons q t => by simp [onlyD] at e
  | .well i :: ds, _, e, .cons q t => by simp [onlyD] at e
  | .ref i :: ds, _, e, .cons q t => by simp [onlyD] at e
theorem drawRun_ok {Y : Md} {n : Nat} {m : List D → S → R D} {vs : List V} {c : Cf} {ds : List D} {Q : VK} {E : XK} (hl : vs.length = n) (r : Rel Y c) (q : rds Y c ds vs) (h : Post Y (rd Y) (fun cv dx H' => E cv dx H') c (drawRun m ds c.s) Q) : spM Y n m vs c.H Q E := by
  unfold drawRun at h
  split at h
  · rename_i i rest
    split at h
    · rename_i ho
      have q' : RDs Y c.inW.m c.inW.o c.inW.H (.ref i :: rest) vs := by
        cases q with
        | cons q t => exact .cons q (onlyD_any ho t)
      refine ⟨hl, .ref i :: rest, c.inW, rfl, r.inW, q', ?_⟩
      show Post Y (rd Y) _ c.inW (m (.ref i :: rest) ⟨c.s.w, []⟩) Q
      cases hm : m (.ref i :: rest) ⟨c.s.w, []⟩ with
      | ok d s' =>
        obtain ⟨g', w'⟩ := s'
        rw [hm] at h
        cases d with
        | p x =>
          cases w' with
          | nil =>
            intro v c2 e2 s2 r2 q2
            refine h v (c.outW c2) ?_ (s2.outW r) (r.outW s2 r2 (by rw [e2])) q2
            show (⟨c.s.g, c2.s.g⟩ : S) = _
            rw [e2]
          | cons _ _ => exact h.elim
        | ref i => exact h.elim
        | well i => exact h.elim
        | fn x => exact h.elim
      | ex x fs s' => rw [hm] at h; exact h.elim
      | bad => rw [hm] at h; exact h.elim
    · exact h.elim
  · exact h.elim
theorem wellRun_ok {Y : Md} {n : Nat} {m : List D → S → R D} {vs : List V} {c : Cf} {ds : List D} {Q : VK} {E : XK} (hl : vs.length = n) (r : Rel Y c) (q : rds Y c ds vs) (h : Post Y (rd Y) (fun cv dx H' => E cv dx H') c (wellRun m ds c.s) Q) : spM Y n m vs c.H Q E := by
  unfold wellRun at h
  split at h
  · rename_i ho
    split at h
    · rename_i hw
      refine ⟨hl, ds, c.inW, rfl, r.inW, onlyD_any ho q, ?_⟩
      show Post Y (rd Y) _ c.inW (m ds ⟨c.s.w, []⟩) Q
      rw [hw]
      cases hm : m ds ⟨[], []⟩ with
      | ok d s' =>
        obtain ⟨g', w'⟩ := s'
        rw [hm] at h
        cases d with
        | p x => exact h.elim
        | ref i =>
          cases w' with
          | nil =>
            intro v c2 e2 s2 r2 q2
            refine h v (c.outW c2) ?_ (s2.outW r) (r.outW s2 r2 (by rw [e2])) q2
            show (⟨c.s.g, c2.s.g⟩ : S) = _
            rw [e2]
          | cons _ _ => exact h.elim
        | well i => exact h.elim
        | fn x => exact h.elim
      | ex x fs s' => rw [hm] at h; exact h.elim
      | bad => rw [hm] at h; exact h.elim
    · exact h.elim
  · exact h.elim
/-- a def's promise by another run of its mirror -/
theorem DefOk.run {P : Program} {w : World} {K : PySem.W.Frag} {mg : Str → Option Value} {base : Heap} {x : Str} {k n : Nat} {m m' : List D → S → R D} (h : DefOk P w K mg base x k n m)
    (i : ∀ (Y : Md) (vs : List V) (c : Cf) (ds : List D) (Q : VK) (E : XK), vs.length = n → Rel Y c → rds Y c ds vs → Post Y (rd Y) (fun cv dx H' => E cv dx H') c (m' ds c.s) Q → spM Y n m vs c.H Q E) : DefOk P w K mg base x k n m' := by
  obtain ⟨f, fd, ps, F, h2⟩ := h
  refine ⟨f, fd, ps, F.imp fun vs H Q E hp => ?_, h2⟩
  obtain ⟨hl, ds, c, e, r, q, hp⟩ := hp
  subst e
  exact i _ vs c ds Q E hl r q hp
theorem DefOk.alone {P : Program} {w : World} {K : PySem.W.Frag} {mg : Str → Option Value} {base : Heap} {x : Str} {k n : Nat} {m : List D → S → R D} (h : DefOk P w K mg base x k n m) : DefOk P w K mg base x k n (pureRun m) := h.run fun _ _ _ _ _ _ hl r q hp => pureRun_ok hl r q hp
theorem DefOk.draw {P : Program} {w : World} {K : PySem.W.Frag} {mg : Str → Option Value} {base : Heap} {x : Str} {k n : Nat} {m : List D → S → R D} (h : DefOk P w K mg base x k n m) : DefOk P w K mg base x k n (drawRun m) := h.run fun _ _ _ _ _ _ hl r q hp => drawRun_ok hl r q hp
theorem DefOk.well {P : Program} {w : World} {K : PySem.W.Frag} {mg : Str → Option Value} {base : Heap} {x : Str} {k n : Nat} {m : List D → S → R D} (h : DefOk P w K mg base x k n m) : DefOk P w K mg base x k n (wellRun m) := h.run fun _ _ _ _ _ _ hl r q hp => wellRun_ok hl r q hp
/-- a mirror that says the same, or nothing -/
theorem DefOk.eqv {P : Program} {w : World} {K : PySem.W.Frag} {mg : Str → Option Value} {base : Heap} {x : Str} {k n : Nat} {m m' : List D → S → R D} (h : DefOk P w K mg base x k n m) (e : ∀ ds s, m' ds s = m ds s ∨ m' ds s = .bad) : DefOk P w K mg base x k n m' :=
  h.run fun _ vs c ds Q E hl r q hp => ⟨hl, ds, c, rfl, r, q, by
    rcases e ds c.s with z | z
    · rw [z] at hp; exact hp
    · rw [z] at hp; exact hp.elim⟩
end

/-! ### the names of built-ins; more forms -/
theorem bt_len : bootBuiltins "len" = some (.builtin "len") := by decide +kernel
theorem bt_all : bootBuiltins "all" = some (.builtin "all") := by decide +kernel
theorem bt_any : bootBuiltins "any" = some (.builtin "any") := by decide +kernel
theorem bt_sum : bootBuiltins "sum" = some (.builtin "sum") := by decide +kernel
theorem bt_tuple : bootBuiltins "tuple" = some (.type "tuple") := by decide +kernel
theorem bt_list : bootBuiltins "list" = some (.type "list") := by decide +kernel
theorem bt_int : bootBuiltins "int" = some (.type "int") := by decide +kernel
theorem bt_bool : bootBuiltins "bool" = some (.type "bool") := by decide +kernel
theorem bt_str : bootBuiltins "str" = some (.type "str") := by decide +kernel
theorem bt_dict : bootBuiltins "dict" = some (.type "dict") := by decide +kernel
abbrev iLt := iCmp fun i j => decide (i < j)
abbrev iLe := iCmp fun i j => decide (i ≤ j)
abbrev iGt := iCmp fun i j => decide (j < i)
abbrev iGe := iCmp fun i j => decide (j ≤ i)
section
variable {X : Cx} {W : WX} {pos : Pos} {a b c : Expr} {ma mb mc : ME}
theorem o_ltP : Op2 X (compareOp .Lt) (pp2 iLt) := o_lt
theorem o_leP : Op2 X (compareOp .LtE) (pp2 iLe) := o_le
theorem o_gtP : Op2 X (compareOp .Gt) (pp2 iGt) := o_gt
theorem o_geP : Op2 X (compareOp .GtE) (pp2 iGe) := o_ge
/-- a op b op' c -/
def mChain (f f' : D → D → S → R D) (ma mb mc : ME) : ME := fun env s => (ma env s).bind fun d1 s1 => (mb env s1).bind fun d2 s2 => (f d1 d2 s2).bind fun z s3 => (asB z s3).bind fun k s4 => if k then (mc env s4).bind fun d3 s5 => f' d2 d3 s5 else .ok (.p (.bool false)) s4
theorem asB_then {γ δ : Type} {Y : Md} {RC : Cf → γ → δ → Prop} {WE : Value → Option Addr → Hp → Prop} {c : Cf} {d : D} {v : V} {f : Bool → S → R γ} {Q : δ → Hp → Prop} (q : rd Y c d v) (h : Post Y RC WE c ((asB d c.s).bind f) Q) : ∃ k, v = .bl k ∧ Post Y RC WE c (f k c.s) Q := by
  unfold asB at h
  split at h
  · exact ⟨_, rd_bool q, h⟩
  · exact h.elim
theorem tChain_of {r r' : R2} {f f' : D → D → S → R D} (hl : Link2 (yx X) f r) (hl' : Link2 (yx X) f' r') {σ : L2.St} {H : Hp} {Q : VK} (h : LE X W (mChain f f' ma mb mc) σ H Q) : tChain r r' (LE X W ma) (LE X W mb) (LE X W mc) σ H Q := by
  obtain ⟨env, c, e, re, rr, h⟩ := h
  refine ⟨env, c, e, re, rr, h.bind fun d1 v1 c1 s1 r1 q1 h1 => ⟨env, c1, rfl, re.step rr s1, r1, h1.bind fun d2 v2 c2 s2 r2 q2 h2 => ?_⟩⟩
  refine hl (fun cv dx H' => W cv dx σ H') c2 d1 d2 v1 v2 _ r2 (q1.step r1 s2) q2 (h2.bind fun z vz c3 s3 r3 q3 h3 => ?_)
  obtain ⟨k, ek, h4⟩ := asB_then q3 h3
  refine ⟨k, ek, ?_⟩
  cases k with
  | true => exact iteT ⟨env, c3, rfl, ((re.step rr s1).step r1 s2).step r2 s3, r3, h4.bind fun d3 v3 c4 s4 r4 q4 h5 => hl' _ c4 d2 d3 v2 v3 Q r4 ((q2.step r2 s3).step r3 s4) q4 h5⟩
  | false => exact iteF (h4.p r3 mk_bool)
theorem e_chain {op op' : CmpOp} {f f' : D → D → S → R D} (ho : Op2 X (compareOp op) f) (ho' : Op2 X (compareOp op') f') (ha : PE X a (LE X W ma)) (hb : PE X b (LE X W mb)) (hc : PE X c (LE X W mc)) (hm : lastMarks [op, op'] [b, c] = false := by with_unfolding_all rfl) :
    PE X (.Compare a [op, op'] [b, c] pos) (LE X W (mChain f f' ma mb mc)) := by
  obtain ⟨r, hr, hl⟩ := ho
  obtain ⟨r', hr', hl'⟩ := ho'
  exact (pe_chain hr hr' ha hb hc hm).imp fun σ H Q h => tChain_of hl hl' h
theorem t_chain {op op' : CmpOp} {f f' : D → D → S → R D} (ho : Op2 X (compareOp op) f) (ho' : Op2 X (compareOp op') f') (ha : PE X a (LE X W ma)) (hb : PE X b (LE X W mb)) (hc : PE X c (LE X W mc)) (hm : lastMarks [op, op'] [b, c] = false := by with_unfolding_all rfl) :
    PT X (.Compare a [op, op'] [b, c] pos) (LT X W (mTest (mChain f f' ma mb mc))) := by
  obtain ⟨r, hr, hl⟩ := ho
  obtain ⟨r', hr', hl'⟩ := ho'
  refine (pt_chain hr hr' ha hb hc hm).imp fun σ H Q h => ?_
  obtain ⟨env, c, e, re, rr, h⟩ := h
  exact tChain_of hl hl' ⟨env, c, e, re, rr, h.bind fun d v c1 s1 r1 q1 h1 => asB_ok r1 q1 h1⟩
/-- a constant of the module, an int or a text -/
theorem e_gint {x : Str} {i : Int} (h : ∃ t, X.mg x = some (.int i t)) (hg : Gl X x := by rfl) (hd : (x == ("__debug__" : Str)) = false := by decide) : PE X (.Name x pos) (LE X W (mK (.int i))) := by
  obtain ⟨t, h⟩ := h
  exact e_glob (v := .int i) hg h ⟨t, rfl⟩ (fun _ => mk_int) hd
theorem e_gstr {x : Str} {i : Str} (h : ∃ t, X.mg x = some (.str i t)) (hg : Gl X x := by rfl) (hd : (x == ("__debug__" : Str)) = false := by decide) : PE X (.Name x pos) (LE X W (mK (.str i))) := by
  obtain ⟨t, h⟩ := h
  exact e_glob (v := .str i) hg h ⟨t, rfl⟩ (fun _ => mk_str) hd
theorem Quiet1.tup {n : Nat} {gs : List D → Env1 → S → R Env1} (h : QuietG gs) : Quiet1 (gTup n gs) := fun d env s x fs s' e => by
  unfold gTup at e
  split at e
  · split at e
    · exact h _ _ _ _ _ _ e
    · cases e
  · cases e
end
theorem PSs.dummy : True := trivial
theorem _root_.L2.PS.fz {X : Cx} {st : Stmt} {t : TS} (h : PS X st t) : PS X st (fun D σ H => t { D with nx := fun σ' H' => FZ (D.nx σ') H' } σ H) :=
  ⟨fun pins s σ H D I q => thn (h.run pins s σ H _ I q) fun f s1 hs => by
    cases f with
    | next => obtain ⟨σ', H', I', z⟩ := hs; obtain ⟨H2, I2, q2⟩ := fz_run z I'; exact ⟨σ', H2, I2, q2⟩
    | brk => exact hs
    | cont => exact hs
    | ret v => exact hs⟩
section
variable {X : Cx} {W : WX} {elt tg iter : Expr} {ifs : List Expr} {scope : Scope} {own : List (Str × Nat)} {mi : MI} {t : TG} {g : MG} {tt : MT} {me : ME} {pos : Pos}
/-- x = [..] on one line, x a local: the list stands for good -/
theorem s_lcF {i : Nat} {y : Str} {py spos : Pos} (hc : X.calm = true) (hN : X.N.Nodup) (hy : X.N[i]? = some y) (hyl : X.env.scope.names.lookup y = some .local)
    (hsw : swapsWith (.ListComp elt [⟨tg, iter, ifs, 0⟩] scope pos) (some (.Name y py)) spos.line X.env = pure true) (hi : PI X tg iter (LI X W mi)) (ok : BlkOk X.N X.env.scope scope own) (tk : TgOk (yx X) t g (own.map (·.2)))
    (hg : ∀ (s : Shared) (H : Hp) (C : Addr) (cl : List (Str × Addr)) (fp : List Addr), PG (X.blk s H scope (compEnvC scope cl C X.env) fp) tg t)
    (ht : ∀ (s : Shared) (H : Hp) (C : Addr) (cl : List (Str × Addr)) (fp : List Addr), PTs (X.blk s H scope (compEnvC scope cl C X.env) fp) ifs (LT (X.blk s H scope (compEnvC scope cl C X.env) fp) wNo tt))
    (he : ∀ (s : Shared) (H : Hp) (C : Addr) (cl : List (Str × Addr)) (fp : List Addr), PE (X.blk s H scope (compEnvC scope cl C X.env) fp) elt (LE (X.blk s H scope (compEnvC scope cl C X.env) fp) wNo me)) (hs : ∀ x, foldedSetIterable iter X.env x = pure x := by intro _; rfl) :
    PS X (.Assign [.Name y py] (.ListComp elt [⟨tg, iter, ifs, 0⟩] scope pos) spos) (LS X W (sSet i (mLc mi (own.map (·.2)) g tt me kFrz))) :=
  ((ps_setLc hc hN hy hyl hsw hi ok hg ht he hs).fz).imp fun D σ H ⟨env, c, e, re, r, h⟩ =>
    tLc_frz (wi := LI X W mi) (Q := fun v H' => D.nx (σ.set i (some v)) H') tk ⟨env, c, e, re, r, h.bind (RA := rd (yx X)) re r fun d v c1 s1 r1 q1 h1 => h1 _ c1 rfl Stp.refl r1 ((re.step r s1).set i q1)⟩
end

/-! ### exception classes as facts -/
/-- an own exception class over ValueError without an __init__ of its own -/
def XcAt (K : PySem.W.Frag) (mg : Str → Option Value) (x : Str) : Prop := ∃ C, mg x = some (.ref C) ∧ PySem.W.excIn K C [.type "ValueError", .type "Exception", .type "BaseException", .type "object"] "ValueError.__new__" = true ∧ PySem.W.keepIn K (.ref C) = true ∧ PySem.W.subIn K (.ref C) (.type "BaseException") = some true ∧ PySem.W.typeIn K (.ref C) = some (.type "type")
section
variable {X : Cx} {W : WX} {pos : Pos}
theorem s_raiseX {x : Str} {p pos' : Pos} (h : XcAt X.K X.mg x) (tk : Takes X W) (hc : X.calm = true := by rfl) (hg : Gl X x := by rfl) (hdb : (x == ("__debug__" : Str)) = false := by decide) : PS X (.Raise (some (.Call (.Name x p) [] [] pos)) none pos') (LS X W (sRaise x)) := by
  obtain ⟨C, gC, q, kC, sub, ty⟩ := h
  exact s_raise PySem.F.excBase_ValueError q gC kC (raises_own sub ty) hc tk hg hdb
/-- which clause takes it, where that is known -/
def hdlX (em : Str → Str → Option Bool) (x : Str) (fs : List (Str × D)) (env : Env1) (s : S) : List (Str × MS) → RS
  | [] => .ex x fs env s
  | (c, m) :: r => match em x c with
    | some true => (match m env s with
      | .ex _ _ _ _ => .bad
      | z => z)
    | some false => hdlX em x fs env s r
    | none => .bad
def sTryX (em : Str → Str → Option Bool) (mb : MS) (hs : List (Str × MS)) : MS := fun env s => match mb env s with
  | .ex x fs env' s' => hdlX em x fs env' s' hs
  | z => z
/-- what is known of an except clause's class -/
def ExAt (K : PySem.W.Frag) (mg : Str → Option Value) (em : Str → Str → Option Bool) (y : Str) : Prop := ∃ C', mg y = some (.ref C') ∧ ∀ x C b, mg x = some (.ref C) → em x y = some b → PySem.W.exmOne K (.ref C) (.ref C') = some b
inductive HdX (X : Cx) (em : Str → Str → Option Bool) : List ExceptHandler → List (Str × MS) → Prop
  | nil : HdX X em [] []
  | cons {y : Str} {m : MS} {b₀ : Stmt} {suite : List Stmt} {np pos' : Pos} {hds : List ExceptHandler} {l : List (Str × MS)} (hc : ExAt X.K X.mg em y) (hg : Gl X y) (hd : (y == ("__debug__" : Str)) = false)
      (hsu : ∀ (a : Addr) (pn : List (Addr × Obj)), PSs (X.suite a pn) (b₀ :: suite) (LS X wNo m)) (r : HdX X em hds l) : HdX X em (.ExceptHandler (some (.Name y np)) none (b₀ :: suite) pos' :: hds) ((y, m) :: l)
theorem HdX.ok {em : Str → Str → Option Bool} {hds : List ExceptHandler} {l : List (Str × MS)} (h : HdX X em hds l) : ∃ cs : List (Str × Value × MS), cs.map (fun p => (p.1, p.2.2)) = l ∧ HdsOk X hds (cs.map fun p => (p.2.1, fun _ _ _ => LS X wNo p.2.2)) ∧
    ∀ x C b, X.mg x = some (.ref C) → ∀ p ∈ cs, em x p.1 = some b → PySem.W.exmOne X.K (.ref C) p.2.1 = some b := by
  induction h with
  | nil => exact ⟨[], rfl, .nil, fun _ _ _ _ p hp => nomatch hp⟩
  | @cons y m b₀ suite np pos' hds l hc hg hd hsu r ih =>
    obtain ⟨C', h1, h2⟩ := hc
    obtain ⟨cs, e, k1, k2⟩ := ih
    refine ⟨(y, .ref C', m) :: cs, by simp [e], .cons ⟨hg, hd, .inl h1⟩ (fun a oe cls d pn hz hf => hsu a _) k1, fun x C b hx p hp hb => ?_⟩
    rcases List.mem_cons.mp hp with e | hp
    · subst e; exact h2 x C b hx hb
    · exact k2 x C b hx p hp hb
theorem s_tryX {body : List Stmt} {h₀ : ExceptHandler} {hds : List ExceptHandler} {l : List (Str × MS)} {mb : MS} {em : Str → Str → Option Bool} (tk : Takes X W)
    (hb : ∀ (W' : WX) (pn : List (Addr × Obj)) (xe : Value → Shared → Prop), Takes (X.tr pn xe) W' → PassesOwn (model X.prog X.w) X.A X.env xe → PSs (X.tr pn xe) body (LS X W' mb))
    (hh : HdX X em (h₀ :: hds) l) (hs : X.stack = X.env :: X.outer := by rfl) (hf : X.env.frame = some X.env.locals := by rfl) : PS X (.Try body (h₀ :: hds) [] [] pos) (LS X W (sTryX em mb l)) := by
  obtain ⟨cs, el, k1, k2⟩ := hh.ok
  subst el
  refine (ps_try_many (tb := fun W' => LS X W' mb) hs hf tk hb k1).imp fun D σ H ⟨env, c, e, re, rr, h⟩ => ⟨env, c, e, re, rr, ?_⟩
  unfold sTryX at h
  cases hm : mb env c.s with
  | ex x fs env' s' =>
    rw [hm] at h
    intro cv dx σ' c' e' st' r' xr re'
    have h' := PostS.step h st'
    simp only at h'
    obtain ⟨C, e1, e2, e3⟩ := id xr
    subst e1
    have key : ∀ l : List (Str × Value × MS), (∀ p ∈ l, ∀ b, em x p.1 = some b → PySem.W.exmOne X.K (.ref C) p.2.1 = some b) → PostS (yx X) W D c' (hdlX em x fs env' s' (l.map fun p => (p.1, p.2.2))) →
        wMany X.K W D (l.map fun p => (p.2.1, fun _ _ _ => LS X wNo p.2.2)) (.ref C) dx σ' c'.H := by
      intro l
      induction l with
      | nil => exact fun _ z => z (.ref C) dx σ' c' e' Stp.refl r' xr re'
      | cons p l ih =>
        intro hp z
        obtain ⟨y, cc, mm⟩ := p
        simp only [List.map_cons, hdlX] at z
        cases hy : em x y with
        | none => rw [hy] at z; exact z.elim
        | some b =>
          rw [hy] at z
          refine ⟨b, hp _ List.mem_cons_self b hy, fun hb' a na => ?_, fun hb' => ?_⟩
          · subst hb'
            simp only at z
            refine ⟨env', c', rfl, re', r', ?_⟩
            rw [← e'] at z
            show PostS (yx X) wNo D c' (mm env' c'.s)
            cases hmm : mm env' c'.s with
            | ex _ _ _ _ => rw [hmm] at z; exact z.elim
            | nx _ _ => rw [hmm] at z; exact z
            | ret _ _ => rw [hmm] at z; exact z
            | brk _ _ => rw [hmm] at z; exact z
            | cont _ _ => rw [hmm] at z; exact z
            | bad => rw [hmm] at z; exact z.elim
          · subst hb'
            simp only at z
            exact ih (fun q hq => hp q (List.mem_cons_of_mem _ hq)) z
    exact key cs (fun p hp b => k2 x C b e2 p hp) h'
  | nx env' s' => rw [hm] at h; exact h
  | ret d s' => rw [hm] at h; exact h
  | brk env' s' => rw [hm] at h; exact h
  | cont env' s' => rw [hm] at h; exact h
  | bad => rw [hm] at h; exact h
end
end Mp

/-! MP, part K: what mirrors come to, in plain Lean. -/
namespace Mp
open PySem PySem.Spec PyProof.Rows L2

/-- r comes to a value and a state with Q -/
def Gets {α : Type} (r : R α) (Q : α → S → Prop) : Prop := ∃ d s, r = .ok d s ∧ Q d s
theorem Gets.mono {α : Type} {r : R α} {Q Q' : α → S → Prop} (h : Gets r Q) (k : ∀ d s, Q d s → Q' d s) : Gets r Q' := let ⟨d, s, e, q⟩ := h; ⟨d, s, e, k d s q⟩
theorem Gets.bind {α β : Type} {r : R α} {f : α → S → R β} {Q : β → S → Prop} (h : Gets r fun d s => Gets (f d s) Q) : Gets (r.bind f) Q := by
  obtain ⟨d, s, e, d', s', e', q⟩ := h
  exact ⟨d', s', by rw [e]; exact e', q⟩
theorem Gets.of {α : Type} {d : α} {s : S} {Q : α → S → Prop} (h : Q d s) : Gets (.ok d s) Q := ⟨d, s, rfl, h⟩

/-! ### loops and list comprehensions -/
theorem lc_each {ok : S → Prop} {i : Nat} {me : ME} {env0 : Env1} {I : S → Prop} {F : D → D → Prop} (ho : ∀ s, I s → ok s) : ∀ {xs : List D}, (∀ x ∈ xs, ∀ s, I s → Gets (me (env0.set i (some x)) s) fun d s' => F x d ∧ I s') →
    ∀ s, I s → Gets (lcL ok (gSet i) mYes me env0 xs s) fun ds s' => Paired F xs ds ∧ I s'
  | [], _, s, hi => by
    rw [lcL_e0]
    rw [if_pos (ho s hi)]
    exact .of ⟨.nil, hi⟩
  | x :: xs, h, s, hi => by
    rw [lcL_e1]
    rw [if_pos (ho s hi)]
    obtain ⟨d, s1, e, hd, h1⟩ := h x List.mem_cons_self s hi
    simp only [gSet, noex, R.bind, mYes, if_true, e]
    obtain ⟨ds, s2, e2, hds, h2⟩ := lc_each ho (fun y hy => h y (List.mem_cons_of_mem _ hy)) s1 h1
    rw [e2]
    exact .of ⟨.cons hd hds, h2⟩
theorem lc_map {α : Type} {ok : S → Prop} {i : Nat} {me : ME} {env0 : Env1} {s : S} (ho : ok s) {a f : α → D} : ∀ {xs : List α}, (∀ x ∈ xs, me (env0.set i (some (a x))) s = .ok (f x) s) →
    lcL ok (gSet i) mYes me env0 (xs.map a) s = .ok (xs.map f) s
  | [], _ => by
    simp only [List.map_nil]
    rw [lcL_e0]
    rw [if_pos ho]
  | x :: xs, h => by
    simp only [List.map_cons]
    rw [lcL_e1]
    rw [if_pos ho]
    simp only [gSet, noex, R.bind, mYes, if_true, h x List.mem_cons_self]
    rw [lc_map ho fun y hy => h y (List.mem_cons_of_mem _ hy)]
theorem lc_filter {α : Type} {ok : S → Prop} {i : Nat} {tt : MT} {me : ME} {env0 : Env1} {s : S} (ho : ok s) {a f : α → D} {p : α → Bool} : ∀ {xs : List α}, (∀ x ∈ xs, tt (env0.set i (some (a x))) s = .ok (p x) s) → (∀ x ∈ xs, p x = true → me (env0.set i (some (a x))) s = .ok (f x) s) →
    lcL ok (gSet i) tt me env0 (xs.map a) s = .ok ((xs.filter p).map f) s
  | [], _, _ => by
    simp only [List.map_nil, List.filter_nil]
    rw [lcL_e0]
    rw [if_pos ho]
  | x :: xs, h, k => by
    simp only [List.map_cons]
    rw [lcL_e1]
    rw [if_pos ho]
    simp only [gSet, noex, R.bind, h x List.mem_cons_self]
    have ih := lc_filter (me := me) (f := f) ho (fun y hy => h y (List.mem_cons_of_mem _ hy)) fun y hy => k y (List.mem_cons_of_mem _ hy)
    cases hp : p x with
    | true =>
      simp only [if_true, k x List.mem_cons_self hp]
      rw [ih]
      simp [hp]
    | false =>
      simp only [Bool.false_eq_true, if_false]
      rw [ih]
      simp [hp]
/-- a loop's turns keep J; R: what may be handed back -/
def RSw (r : RS) (N : Env1 → S → Prop) (Q : D → S → Prop) : Prop := match r with
  | .nx e s => N e s
  | .ret d s => Q d s
  | _ => False
theorem RSw.mono {r : RS} {N N' : Env1 → S → Prop} {Q Q' : D → S → Prop} (h : RSw r N Q) (k : ∀ e s, N e s → N' e s) (k' : ∀ d s, Q d s → Q' d s) : RSw r N' Q' := by
  cases r <;> first | exact h.elim | exact k _ _ h | exact k' _ _ h
theorem RSw.seq {r : RS} {m : MS} {N : Env1 → S → Prop} {Q : D → S → Prop} (h : RSw r (fun e s => RSw (m e s) N Q) Q) : RSw (r.seq m) N Q := by
  cases r <;> first | exact h.elim | exact h
theorem RSw.thn {α : Type} {r : R α} {env : Env1} {f : α → S → RS} {N : Env1 → S → Prop} {Q : D → S → Prop} (h : Gets r fun d s => RSw (f d s) N Q) : RSw (r.thn env f) N Q := by
  obtain ⟨d, s, e, q⟩ := h
  rw [e]
  exact q
/-- one turn of a loop: on, on, out, handed back -/
def RSt (r : RS) (J N : Env1 → S → Prop) (Q : D → S → Prop) : Prop := match r with
  | .nx e s => J e s
  | .cont e s => J e s
  | .brk e s => N e s
  | .ret d s => Q d s
  | _ => False
theorem for_gets {ok : S → Prop} {g : MG} {body : MS} {N : Env1 → S → Prop} {Q : D → S → Prop} {J : List D → Env1 → S → Prop} (ho : ∀ xs e s, J xs e s → ok s)
    (hb : ∀ x xs e s, J (x :: xs) e s → Gets (g x e s) fun e1 s1 => RSt (body e1 s1) (J xs) N Q) (he : ∀ e s, J [] e s → N e s) : ∀ xs e s, J xs e s → RSw (forL ok g body xs e s) N Q
  | [], e, s, h => by
    rw [forL_e0]
    rw [if_pos (ho _ _ _ h)]
    exact he _ _ h
  | x :: xs, e, s, h => by
    rw [forL_e1]
    rw [if_pos (ho _ _ _ h)]
    obtain ⟨e1, s1, e2, q⟩ := hb x xs e s h
    rw [e2]
    show RSw (match body e1 s1 with | .nx e s2 => _ | .cont e s2 => _ | .brk e s2 => _ | .ret d s2 => _ | .ex c fs e s2 => _ | .bad => _) N Q
    revert q
    cases body e1 s1 with
    | nx e s2 => exact fun q => for_gets ho hb he xs e s2 q
    | cont e s2 => exact fun q => for_gets ho hb he xs e s2 q
    | brk e s2 => exact fun q => q
    | ret d s2 => exact fun q => q
    | ex c fs e s2 => exact fun q => q.elim
    | bad => exact fun q => q.elim
/-- one turn, by equation -/
theorem forL_nx {ok : S → Prop} {g : MG} {body : MS} {x : D} {xs : List D} {e e1 e2 : Env1} {s s1 s2 : S} (ho : ok s) (hg : g x e s = .ok e1 s1) (hb : body e1 s1 = .nx e2 s2) : forL ok g body (x :: xs) e s = forL ok g body xs e2 s2 := by
  rw [forL_e1, if_pos ho, hg]
  simp only [R.thn, hb]
theorem forL_ret {ok : S → Prop} {g : MG} {body : MS} {x d : D} {xs : List D} {e e1 : Env1} {s s1 s2 : S} (ho : ok s) (hg : g x e s = .ok e1 s1) (hb : body e1 s1 = .ret d s2) : forL ok g body (x :: xs) e s = .ret d s2 := by
  rw [forL_e1, if_pos ho, hg]
  simp only [R.thn, hb]
theorem forL_nil {ok : S → Prop} {g : MG} {body : MS} {e : Env1} {s : S} (ho : ok s) : forL ok g body [] e s = .nx e s := by
  rw [forL_e0, if_pos ho]

/-! ### by rewriting -/
section
variable {α β : Type} {Q : α → S → Prop} {N : Env1 → S → Prop} {Z : D → S → Prop}
theorem gets_congr {r r' : R α} (h : r = r') : Gets r Q = Gets r' Q := by rw [h]
theorem rsw_congr {r r' : RS} (h : r = r') : RSw r N Z = RSw r' N Z := by rw [h]
theorem gets_ok {d : α} {s : S} : Gets (.ok d s) Q ↔ Q d s := ⟨fun ⟨d', s', e, q⟩ => by cases e; exact q, fun h => .of h⟩
theorem gets_bind {r : R β} {f : β → S → R α} : Gets (r.bind f) Q ↔ Gets r fun d s => Gets (f d s) Q := by
  refine ⟨fun h => ?_, Gets.bind⟩
  obtain ⟨d, s, e, q⟩ := h
  cases r with
  | ok a s1 => exact .of ⟨d, s, e, q⟩
  | ex c fs s1 => cases e
  | bad => cases e
theorem gets_ite {c : Prop} [Decidable c] {a b : R α} : Gets (if c then a else b) Q ↔ if c then Gets a Q else Gets b Q := by
  split <;> rfl
theorem rsw_ite {c : Prop} [Decidable c] {a b : RS} : RSw (if c then a else b) N Z ↔ if c then RSw a N Z else RSw b N Z := by
  split <;> rfl
theorem rsw_seq {r : RS} {m : MS} : RSw (r.seq m) N Z ↔ RSw r (fun e s => RSw (m e s) N Z) Z := by
  cases r <;> exact Iff.rfl
theorem rsw_thn {r : R β} {env : Env1} {f : β → S → RS} : RSw (r.thn env f) N Z ↔ Gets r fun d s => RSw (f d s) N Z := by
  cases r with
  | ok a s1 => exact ⟨fun h => .of h, fun h => gets_ok.mp h⟩
  | ex c fs s1 => exact ⟨fun h => h.elim, fun ⟨_, _, e, _⟩ => by cases e⟩
  | bad => exact ⟨fun h => h.elim, fun ⟨_, _, e, _⟩ => by cases e⟩
theorem rsw_nx {e : Env1} {s : S} : RSw (.nx e s) N Z ↔ N e s := Iff.rfl
theorem rsw_ret {d : D} {s : S} : RSw (.ret d s) N Z ↔ Z d s := Iff.rfl
/-- any end of a piece: on, out of the loop, next turn, handed back -/
def RSx (r : RS) (N B C : Env1 → S → Prop) (Q : D → S → Prop) : Prop := match r with
  | .nx e s => N e s
  | .cont e s => C e s
  | .brk e s => B e s
  | .ret d s => Q d s
  | _ => False
theorem rsx_congr {r r' : RS} {N B C : Env1 → S → Prop} (h : r = r') : RSx r N B C Z = RSx r' N B C Z := by rw [h]
theorem rst_congr {r r' : RS} {J : Env1 → S → Prop} (h : r = r') : RSt r J N Z = RSt r' J N Z := by rw [h]
theorem rst_x {r : RS} {J : Env1 → S → Prop} : RSt r J N Z ↔ RSx r J N J Z := by cases r <;> exact Iff.rfl
variable {B C : Env1 → S → Prop}
theorem rsx_seq {r : RS} {m : MS} : RSx (r.seq m) N B C Z ↔ RSx r (fun e s => RSx (m e s) N B C Z) B C Z := by
  cases r <;> exact Iff.rfl
theorem rsx_nx {e : Env1} {s : S} : RSx (.nx e s) N B C Z ↔ N e s := Iff.rfl
theorem rsx_ret {d : D} {s : S} : RSx (.ret d s) N B C Z ↔ Z d s := Iff.rfl
theorem rsx_brk {e : Env1} {s : S} : RSx (.brk e s) N B C Z ↔ B e s := Iff.rfl
theorem rsx_cont {e : Env1} {s : S} : RSx (.cont e s) N B C Z ↔ C e s := Iff.rfl
theorem rsx_ite {c : Prop} [Decidable c] {a b : RS} : RSx (if c then a else b) N B C Z ↔ if c then RSx a N B C Z else RSx b N B C Z := by
  split <;> rfl
theorem rsx_thn {r : R β} {env : Env1} {f : β → S → RS} : RSx (r.thn env f) N B C Z ↔ Gets r fun d s => RSx (f d s) N B C Z := by
  cases r with
  | ok a s1 => exact ⟨fun h => .of h, fun h => gets_ok.mp h⟩
  | ex c fs s1 => exact ⟨fun h => h.elim, fun ⟨_, _, e, _⟩ => by cases e⟩
  | bad => exact ⟨fun h => h.elim, fun ⟨_, _, e, _⟩ => by cases e⟩
theorem rsx_of {r : RS} (h : RSw r N Z) : RSx r N B C Z := by cases r <;> first | exact h | exact h.elim
theorem gets_fnM {n z : Nat} {m : MS} {ds : List D} {s : S} (hl : ds.length = n) : Gets (fnM n z m ds s) Z ↔ RSw (m (ds.map some ++ List.replicate (z - n) none) s) (fun _ s => Z (.p .none) s) Z := by
  unfold fnM
  rw [if_pos hl]
  cases m (ds.map some ++ List.replicate (z - n) none) s <;> first | exact gets_ok | exact ⟨(fun ⟨_, _, e, _⟩ => by cases e), (fun h => h.elim)⟩
theorem pure_eq {f : List D → S → R D} {ds : List D} {s : S} {x : PyData} (ho : onlyP ds = true) (h : Gets (f ds ⟨[], s.w⟩) fun d s' => d = .p x ∧ s'.w = s.w) : pureRun f ds s = .ok (.p x) s := by
  obtain ⟨d, s', e, rfl, h2⟩ := h
  unfold pureRun
  rw [if_pos ho]
  simp only [e, h2]
theorem pure_gets {f : List D → S → R D} {ds : List D} {g w : GH} (ho : onlyP ds = true) (h : Gets (f ds ⟨[], w⟩) fun d s' => ∃ x, d = .p x ∧ Z (.p x) ⟨g, s'.w⟩) : Gets (pureRun f ds ⟨g, w⟩) Z := by
  obtain ⟨d, s', e, x, rfl, h2⟩ := h
  refine ⟨.p x, ⟨g, s'.w⟩, ?_, h2⟩
  unfold pureRun
  rw [if_pos ho]
  simp only [e]
end

/-! ### small things -/
@[simp] theorem allP_map {α : Type} {f : α → PyData} : ∀ {xs : List α}, allP (xs.map fun x => D.p (f x)) = some (xs.map f)
  | [] => rfl
  | x :: xs => by simp [allP, allP_map (xs := xs)]
@[simp] theorem allP_p {xs : List PyData} : allP (xs.map D.p) = some xs := by
  have := allP_map (f := id) (xs := xs)
  simpa using this
theorem allP_each {F : D → D → Prop} {G : PyData → Prop} (h : ∀ x d, F x d → ∃ y, d = .p y ∧ G y) : ∀ {xs ds : List D}, Paired F xs ds → ∃ ys, allP ds = some ys ∧ ys.length = xs.length ∧ ∀ y ∈ ys, G y
  | _, _, .nil => ⟨[], rfl, rfl, by simp⟩
  | _, _, .cons q t => by
    obtain ⟨ys, e, l, g⟩ := allP_each h t
    obtain ⟨y, rfl, gy⟩ := h _ _ q
    exact ⟨y :: ys, by simp [allP, e], by simp [l], by simpa using ⟨gy, g⟩⟩
@[simp] theorem allB_map {α : Type} {f : α → Bool} : ∀ {xs : List α}, allB (xs.map fun x => PyData.bool (f x)) = some (xs.map f)
  | [] => rfl
  | x :: xs => by simp [allB, allB_map (xs := xs)]
@[simp] theorem allI_map {α : Type} {f : α → Int} : ∀ {xs : List α}, allI (xs.map fun x => PyData.int (f x)) = some (xs.map f)
  | [] => rfl
  | x :: xs => by simp [allI, allI_map (xs := xs)]
theorem ixAt_nat {α : Type} {xs : List α} {n : Nat} (h : n < xs.length) : ixAt xs (n : Int) = some xs[n] := by
  unfold ixAt ixN
  split
  · simp_all
  · omega
theorem ixAt_mem {α : Type} {xs : List α} {i : Int} (h0 : 0 ≤ i) (h1 : i < xs.length) : ∃ x, x ∈ xs ∧ ixAt xs i = some x := by
  obtain ⟨k, rfl⟩ := Int.eq_ofNat_of_zero_le h0
  have hk : k < xs.length := by omega
  exact ⟨xs[k], List.getElem_mem hk, ixAt_nat hk⟩
theorem ixN_nat {n k : Nat} (h : k < n) : ixN n (k : Int) = some k := by
  unfold ixN
  rw [if_pos (by omega), if_pos (by omega)]
  simp
theorem mp_ft : (false == true) = false := rfl
theorem mp_tf : (true == false) = false := rfl
theorem ixAt_map {α β : Type} {f : α → β} {xs : List α} {i : Int} : ixAt (xs.map f) i = (ixAt xs i).map f := by
  unfold ixAt
  rw [List.length_map]
  cases ixN xs.length i with
  | none => rfl
  | some j => simp
theorem ixAt_last {α : Type} {x : α} {xs : List α} : ixAt (xs ++ [x]) (-1) = some x := by
  unfold ixAt ixN
  rw [if_neg (by omega), if_pos (by simp; omega)]
  have : ((-1 : Int) + ((xs ++ [x]).length : Nat)).toNat = xs.length := by simp; omega
  rw [this]
  simp
theorem ixAt_0 {α : Type} {x : α} {xs : List α} : ixAt (x :: xs) 0 = some x := ixAt_nat (n := 0) (xs := x :: xs) (by simp)
theorem ixAt_1 {α : Type} {x y : α} {xs : List α} : ixAt (x :: y :: xs) 1 = some y := ixAt_nat (n := 1) (xs := x :: y :: xs) (by simp)
theorem ixAt_2 {α : Type} {x y z : α} {xs : List α} : ixAt (x :: y :: z :: xs) 2 = some z := ixAt_nat (n := 2) (xs := x :: y :: z :: xs) (by simp)
theorem ixAt_3 {α : Type} {x y z t : α} {xs : List α} : ixAt (x :: y :: z :: t :: xs) 3 = some t := ixAt_nat (n := 3) (xs := x :: y :: z :: t :: xs) (by simp)
theorem beq_dec {a b : Int} : (a == b) = decide (a = b) := by
  by_cases h : a = b <;> simp [h]
theorem iEq_int {a b : Int} : iEq (.int a) (.int b) = some (.bool (decide (a = b))) := by
  simp [iEq, SeqAt.shaped, PyData.canLay0, PyData.depth, PyData.eqv, beq_dec]
theorem iNe_int {a b : Int} : iNe (.int a) (.int b) = some (.bool (!decide (a = b))) := by
  simp [iNe, SeqAt.shaped, PyData.canLay0, PyData.depth, PyData.eqv, beq_dec]
theorem mul_ok {i j : Int} (h : (-(2 ^ 64) < i ∧ i < 2 ^ 64) ∨ (-(2 ^ 64) < j ∧ j < 2 ^ 64)) : mulOk i j = true := by rw [mulOk_seal]; exact decide_eq_true h
theorem mul_nn {i j : Int} (h : -1000000000000000000 < i ∧ i < 1000000000000000000) : mulOk i j = true := mul_ok (.inl (by omega))
theorem mul_nl {i j : Int} (h : -1000000000000000000 < j ∧ j < 1000000000000000000) : mulOk i j = true := mul_ok (.inr (by omega))
theorem div_ok {j : Int} (h : 0 < j ∧ j < 1073741824) : divOk j = true := by rw [divOk_seal]; exact decide_eq_true h
theorem pow_ok {i j : Int} (h : 0 ≤ j ∧ j ≤ 1000000 ∧ i.natAbs < 2 ^ 64) : powOk i j = true := by rw [powOk_seal]; exact decide_eq_true h
theorem cutL_sub {α : Type} {xs : List α} {lo hi : Option Int} : (cutL xs lo hi).length ≤ xs.length := by
  unfold cutL
  rw [List.length_take, List.length_drop]
  omega
theorem cutL_map {α β : Type} {f : α → β} {xs : List α} {lo hi : Option Int} : cutL (xs.map f) lo hi = (cutL xs lo hi).map f := by
  simp [cutL, List.map_drop, List.map_take]
theorem cut_take {α : Type} {xs : List α} {k : Nat} : cutL xs none (some (k : Int)) = xs.take k := by
  unfold cutL
  rw [HT.sIx_none, HT.sIx_nat]
  rcases Nat.le_total k xs.length with h | h
  · rw [Nat.min_eq_left h]; simp
  · rw [Nat.min_eq_right h, List.take_of_length_le (l := xs) h]; simp
theorem cut_drop {α : Type} {xs : List α} {k : Nat} : cutL xs (some (k : Int)) none = xs.drop k := by
  unfold cutL
  rw [HT.sIx_none, HT.sIx_nat]
  rcases Nat.le_total k xs.length with h | h
  · rw [Nat.min_eq_left h, List.take_of_length_le (by simp)]
  · rw [Nat.min_eq_right h, List.drop_of_length_le h]; simp
theorem map_map {α β γ : Type} {f : α → β} {g : β → γ} {xs : List α} : (xs.map f).map g = xs.map fun x => g (f x) := by
  simp [Function.comp_def]
theorem isi0 : isiT "NoneType" "bool" = false := by decide
theorem isi1 : isiT "NoneType" "int" = false := by decide
theorem isi2 : isiT "NoneType" "str" = false := by decide
theorem isi3 : isiT "NoneType" "tuple" = false := by decide
theorem isi4 : isiT "NoneType" "list" = false := by decide
theorem isi5 : isiT "NoneType" "dict" = false := by decide
theorem isi6 : isiT "bool" "bool" = true := by decide
theorem isi7 : isiT "bool" "int" = true := by decide
theorem isi8 : isiT "bool" "str" = false := by decide
theorem isi9 : isiT "bool" "tuple" = false := by decide
theorem isi10 : isiT "bool" "list" = false := by decide
theorem isi11 : isiT "bool" "dict" = false := by decide
theorem isi12 : isiT "int" "bool" = false := by decide
theorem isi13 : isiT "int" "int" = true := by decide
theorem isi14 : isiT "int" "str" = false := by decide
theorem isi15 : isiT "int" "tuple" = false := by decide
theorem isi16 : isiT "int" "list" = false := by decide
theorem isi17 : isiT "int" "dict" = false := by decide
theorem isi18 : isiT "str" "bool" = false := by decide
theorem isi19 : isiT "str" "int" = false := by decide
theorem isi20 : isiT "str" "str" = true := by decide
theorem isi21 : isiT "str" "tuple" = false := by decide
theorem isi22 : isiT "str" "list" = false := by decide
theorem isi23 : isiT "str" "dict" = false := by decide
theorem isi24 : isiT "tuple" "bool" = false := by decide
theorem isi25 : isiT "tuple" "int" = false := by decide
theorem isi26 : isiT "tuple" "str" = false := by decide
theorem isi27 : isiT "tuple" "tuple" = true := by decide
theorem isi28 : isiT "tuple" "list" = false := by decide
theorem isi29 : isiT "tuple" "dict" = false := by decide
theorem isi30 : isiT "list" "bool" = false := by decide
theorem isi31 : isiT "list" "int" = false := by decide
theorem isi32 : isiT "list" "str" = false := by decide
theorem isi33 : isiT "list" "tuple" = false := by decide
theorem isi34 : isiT "list" "list" = true := by decide
theorem isi35 : isiT "list" "dict" = false := by decide
theorem isi36 : isiT "dict" "bool" = false := by decide
theorem isi37 : isiT "dict" "int" = false := by decide
theorem isi38 : isiT "dict" "str" = false := by decide
theorem isi39 : isiT "dict" "tuple" = false := by decide
theorem isi40 : isiT "dict" "list" = false := by decide
theorem isi41 : isiT "dict" "dict" = true := by decide
theorem dIx_tup {ps : List PyData} {i : Int} {s : S} : dIx (.p (.tuple ps)) (.p (.int i)) s = ret1 (ixAt ps i) s := rfl
theorem dIx_lst {ps : List PyData} {i : Int} {s : S} : dIx (.p (.list ps)) (.p (.int i)) s = ret1 (ixAt ps i) s := rfl
theorem dIx_ref {j : Nat} {i : Int} {s : S} : dIx (.ref j) (.p (.int i)) s = (match s.g[j]? with
      | some (some (.lst xs)) => (match ixAt xs i with
        | some d => .ok d s
        | none => .bad)
      | _ => .bad) := rfl
theorem sizeOk_of {n : Nat} (h : n ≤ 16777216) : sizeOk n = true := by
  unfold sizeOk sizeLine
  simp
  omega
theorem rng_len {lo : Int} {n : Nat} : (rngItems lo n).length = n := by simp [rngItems]
theorem mem_rng {lo : Int} {n : Nat} {d : D} (h : d ∈ rngItems lo n) : ∃ k : Nat, k < n ∧ d = .p (.int (lo + k)) := by
  unfold rngItems at h
  obtain ⟨k, hk, e⟩ := List.mem_map.mp h
  exact ⟨k, List.mem_range.mp hk, e.symm⟩
theorem rngOk_of {i j : Int} (h1 : -1000000000 ≤ i) (h2 : i ≤ 1000000000) (h3 : -1000000000 ≤ j) (h4 : j ≤ 1000000000) : rngOk i j := by
  unfold rngOk
  omega
theorem onlyP_p {x : PyData} {ds : List D} : onlyP (.p x :: ds) = onlyP ds := rfl

/-! ### the well, first kind -/
def WA (w : GH) : Prop := ∃ (ns : List Int) (a b c : Int), 0 ≤ a ∧ w = [some (.lst [.p (.list (ns.map .int)), .p (.int a), .p (.int b), .p (.int c)])]
/-- a def that draws keeps the well and comes to data -/
def Draws (m : List D → S → R D) (I : GH → Prop) (ds : List D) (F : PyData → Prop) : Prop := ∀ g w, I w → ∃ x w', F x ∧ I w' ∧ m ds ⟨g, w⟩ = .ok (.p x) ⟨g, w'⟩
theorem pure_draws {f : List D → S → R D} {I : GH → Prop} {ds : List D} {F : PyData → Prop} (hp : onlyP ds = true) (h : ∀ w, I w → Gets (f ds ⟨[], w⟩) fun d s => I s.w ∧ ∃ x, d = .p x ∧ F x) : Draws (pureRun f) I ds F := by
  intro g w hw
  obtain ⟨d, s', e, hi, x, rfl, hf⟩ := h w hw
  refine ⟨x, s'.w, hf, hi, ?_⟩
  unfold pureRun
  rw [if_pos hp]
  simp only [e]
theorem lc_typed {α : Type} {ok : S → Prop} {i : Nat} {me : ME} {env0 : Env1} {I : S → Prop} {P : α → Prop} {f : α → PyData} {xs : List D} {s : S} {Q : List D → S → Prop} (ho : ∀ s, I s → ok s)
    (h : ∀ x ∈ xs, ∀ s, I s → Gets (me (env0.set i (some x)) s) fun d s' => I s' ∧ ∃ a, P a ∧ d = .p (f a)) (hi : I s)
    (k : ∀ (as : List α) s', as.length = xs.length → (∀ a ∈ as, P a) → I s' → Q (as.map fun a => D.p (f a)) s') : Gets (lcL ok (gSet i) mYes me env0 xs s) Q := by
  refine Gets.mono (lc_each (F := fun _ d => ∃ a, P a ∧ d = .p (f a)) ho (fun x hx s hs => (h x hx s hs).mono fun d s' q => ⟨q.2, q.1⟩) s hi) fun ds s' ⟨q, hs⟩ => ?_
  have : ∀ {xs ds : List D}, Paired (fun _ d => ∃ a, P a ∧ d = .p (f a)) xs ds → ∃ as : List α, ds = as.map (fun a => D.p (f a)) ∧ as.length = xs.length ∧ ∀ a ∈ as, P a := by
    intro xs ds p
    induction p with
    | nil => exact ⟨[], rfl, rfl, by simp⟩
    | cons q t ih =>
      obtain ⟨a, pa, rfl⟩ := q
      obtain ⟨as, rfl, l, ps⟩ := ih
      exact ⟨a :: as, rfl, by simp [l], by simpa using ⟨pa, ps⟩⟩
  obtain ⟨as, rfl, l, ps⟩ := this q
  exact k as s' l ps hs
theorem ix_w {xs : List PyData} {r : Nat} {s : S} {Q : D → S → Prop} (h : r < xs.length) (k : ∀ x ∈ xs, Q (.p x) s) : Gets (ret1 (ixAt xs (r : Int)) s) Q := by
  rw [ixAt_nat h]
  exact .of (k _ (List.getElem_mem h))
theorem natAdd1 {a : Nat} : (1 : Int) + (a : Int) = ((1 + a : Nat) : Int) := by omega
end Mp

/-! MP, part M: machines as typed values, in plain Lean. -/
namespace Mp
open PySem PySem.Spec PyProof.Rows L2

/-! ### judged data -/
def isInteger : PyData → Bool
  | .int _ => true
  | _ => false
def isBetween (x : PyData) (a b : Int) : Bool := match x with
  | .int i => decide (a ≤ i) && decide (i ≤ b)
  | _ => false
def isIndex (x : PyData) (n : Int) : Bool := isBetween x 0 (n - 1)
def isTupleOf (x : PyData) (n : Int) : Bool := match x with
  | .tuple ps => decide ((ps.length : Int) = n)
  | _ => false
def isText (n : Int) (x : PyData) : Bool := match x with
  | .tuple ps => ps.all (isIndex · n)
  | _ => false
def isStep (x : PyData) (q : Int) : Bool := match x with
  | .none => true
  | .tuple [a, b] => isBetween a 0 60 && isIndex b q
  | _ => false
def isFin (x : PyData) : Bool := match x with
  | .none => true
  | y => isBetween y 1 60
def isRow (x : PyData) (n q : Int) : Bool := match x with
  | .tuple [a, .tuple ss] => decide ((ss.length : Int) = n) && isFin a && ss.all (isStep · q)
  | _ => false
def isMachine (x : PyData) : Bool := match x with
  | .tuple [.int n, .tuple rs] => decide (1 ≤ n) && decide (n ≤ 8) && (decide (1 ≤ rs.length) && decide (rs.length ≤ 30) && rs.all (isRow · n rs.length))
  | _ => false

/-! ### typed machines -/
abbrev MSt := Option (Nat × Nat)
structure MRow where
  fin : Option Nat
  ss : List MSt
structure Mac where
  n : Nat
  rs : List MRow
def eO : Option Nat → PyData
  | none => .none
  | some k => .int k
def eS : MSt → PyData
  | none => .none
  | some p => .tuple [.int p.1, .int p.2]
def eR (r : MRow) : PyData := .tuple [eO r.fin, .tuple (r.ss.map eS)]
def eM (m : Mac) : PyData := .tuple [.int m.n, .tuple (m.rs.map eR)]
def eN (k : Nat) : PyData := .int k
def eT (t : List Nat) : PyData := .tuple (t.map eN)
def MSt.Ok (q : Nat) (s : MSt) : Prop := ∀ p, s = some p → p.1 ≤ 60 ∧ p.2 < q
structure MRow.Ok (n q : Nat) (r : MRow) : Prop where
  len : r.ss.length = n
  fin : ∀ k, r.fin = some k → 1 ≤ k ∧ k ≤ 60
  ss : ∀ s ∈ r.ss, MSt.Ok q s
structure Mac.Ok (m : Mac) : Prop where
  n1 : 1 ≤ m.n
  n8 : m.n ≤ 8
  r1 : 1 ≤ m.rs.length
  r30 : m.rs.length ≤ 30
  rs : ∀ r ∈ m.rs, r.Ok m.n m.rs.length
def TxOk (n : Nat) (t : List Nat) : Prop := ∀ c ∈ t, c < n

theorem between_nat {x : PyData} {a b : Int} (ha : 0 ≤ a) (h : isBetween x a b = true) : ∃ k : Nat, x = .int k ∧ a ≤ k ∧ k ≤ b := by
  unfold isBetween at h
  split at h
  · rename_i i
    simp at h
    exact ⟨i.toNat, by congr 1; omega, by omega, by omega⟩
  · cases h
theorem map_of {G : PyData → Prop} {α : Type} {P : α → Prop} {f : α → PyData} (h : ∀ x, G x → ∃ a, P a ∧ x = f a) : ∀ {xs : List PyData}, (∀ x ∈ xs, G x) → ∃ as : List α, xs = as.map f ∧ (∀ a ∈ as, P a) ∧ as.length = xs.length
  | [], _ => ⟨[], rfl, by simp, rfl⟩
  | x :: xs, k => by
    obtain ⟨a, pa, rfl⟩ := h x (k x List.mem_cons_self)
    obtain ⟨as, rfl, ps, l⟩ := map_of h fun y hy => k y (List.mem_cons_of_mem _ hy)
    exact ⟨a :: as, rfl, by simpa using ⟨pa, ps⟩, by simp⟩
theorem isText_of {n : Nat} {x : PyData} (h : isText n x = true) : ∃ t, TxOk n t ∧ x = eT t := by
  unfold isText at h
  split at h
  · rename_i ps
    rw [List.all_eq_true] at h
    obtain ⟨t, rfl, ht, _⟩ := map_of (P := fun k : Nat => k < n) (f := eN) (fun y hy => by
      obtain ⟨k, rfl, _, hk⟩ := between_nat (by omega) hy
      exact ⟨k, by omega, rfl⟩) h
    exact ⟨t, ht, rfl⟩
  · cases h
theorem isText_eT {n : Nat} {t : List Nat} (h : TxOk n t) : isText n (eT t) = true := by
  simp only [eT, isText, List.all_map, List.all_eq_true]
  intro c hc
  have := h c hc
  simp [eN, isIndex, isBetween]
  omega
theorem isStep_of {q : Nat} {x : PyData} (h : isStep x q = true) : ∃ s, MSt.Ok q s ∧ x = eS s := by
  unfold isStep at h
  split at h
  · exact ⟨none, (fun p e => by cases e), rfl⟩
  · rename_i a b
    rw [Bool.and_eq_true] at h
    obtain ⟨k, rfl, _, hk⟩ := between_nat (by omega) h.1
    obtain ⟨j, rfl, _, hj⟩ := between_nat (by omega) h.2
    refine ⟨some (k, j), fun p e => ?_, rfl⟩
    cases e
    exact ⟨by omega, by show j < q; omega⟩
  · cases h
theorem isStep_eS {q : Nat} {s : MSt} (h : MSt.Ok q s) : isStep (eS s) q = true := by
  cases s with
  | none => rfl
  | some p =>
    have := h p rfl
    simp [eS, isStep, isIndex, isBetween]
    omega
theorem isFin_of {x : PyData} (h : isFin x = true) : ∃ o : Option Nat, (∀ k, o = some k → 1 ≤ k ∧ k ≤ 60) ∧ x = eO o := by
  unfold isFin at h
  split at h
  · exact ⟨none, (fun p e => by cases e), rfl⟩
  · obtain ⟨k, rfl, h1, hk⟩ := between_nat (by omega) h
    refine ⟨some k, fun p e => ?_, rfl⟩
    cases e
    omega
theorem isFin_eO {o : Option Nat} (h : ∀ k, o = some k → 1 ≤ k ∧ k ≤ 60) : isFin (eO o) = true := by
  cases o with
  | none => rfl
  | some k =>
    have := h k rfl
    simp [eO, isFin, isBetween]
    omega
theorem isRow_of {n q : Nat} {x : PyData} (h : isRow x n q = true) : ∃ r, MRow.Ok n q r ∧ x = eR r := by
  unfold isRow at h
  split at h
  · rename_i a ss
    simp only [Bool.and_eq_true, decide_eq_true_eq, List.all_eq_true] at h
    obtain ⟨⟨h1, h2⟩, h3⟩ := h
    obtain ⟨o, ho, rfl⟩ := isFin_of h2
    obtain ⟨sl, rfl, hs, hl⟩ := map_of (P := MSt.Ok q) (f := eS) (fun y hy => isStep_of hy) h3
    exact ⟨⟨o, sl⟩, ⟨by simp at h1; show sl.length = n; omega, ho, hs⟩, rfl⟩
  · cases h
theorem isRow_eR {n q : Nat} {r : MRow} (h : MRow.Ok n q r) : isRow (eR r) n q = true := by
  simp only [eR, isRow, Bool.and_eq_true, decide_eq_true_eq, List.all_map, List.all_eq_true, List.length_map]
  exact ⟨⟨by rw [h.len], isFin_eO h.fin⟩, fun s hs => isStep_eS (h.ss s hs)⟩
theorem isMachine_of {x : PyData} (h : isMachine x = true) : ∃ m : Mac, m.Ok ∧ x = eM m := by
  unfold isMachine at h
  split at h
  · rename_i n rs
    simp only [Bool.and_eq_true, decide_eq_true_eq, List.all_eq_true] at h
    obtain ⟨⟨h1, h2⟩, ⟨h3, h4⟩, h5⟩ := h
    obtain ⟨k, rfl⟩ := Int.eq_ofNat_of_zero_le (show 0 ≤ n by omega)
    obtain ⟨sl, rfl, hs, hl⟩ := map_of (P := MRow.Ok k rs.length) (f := eR) (fun y hy => isRow_of hy) h5
    refine ⟨⟨k, sl⟩, ⟨by simp; omega, by simp; omega, by simp at h3; simpa using h3, by simpa using h4, by simpa using hs⟩, rfl⟩
  · cases h
theorem isMachine_eM {m : Mac} (h : m.Ok) : isMachine (eM m) = true := by
  simp only [eM, isMachine, Bool.and_eq_true, decide_eq_true_eq, List.all_map, List.all_eq_true, List.length_map]
  have := h.n1
  have := h.n8
  exact ⟨⟨by omega, by omega⟩, ⟨h.r1, h.r30⟩, fun s hs => isRow_eR (h.rs s hs)⟩

/-! ### reading -/
def Mac.row (m : Mac) (q : Nat) : MRow := m.rs[q]?.getD ⟨none, []⟩
def MRow.st (r : MRow) (c : Nat) : MSt := r.ss[c]?.getD none
/-- the additional length so far, the state reached -/
def Mac.read (m : Mac) : Nat → Nat → List Nat → Nat × Option Nat
  | q, f, [] => (f, some q)
  | q, f, c :: cs => match (m.row q).st c with
    | none => (f, none)
    | some p => m.read p.2 (f + p.1) cs
def Mac.len (m : Mac) (t : List Nat) : Option Nat := match m.read 0 0 t with
  | (_, none) => none
  | (f, some q) => (m.row q).fin.map (f + ·)
theorem Mac.row_eq {m : Mac} {q : Nat} (h : q < m.rs.length) : m.rs[q] = m.row q := by simp [Mac.row, h]
theorem MRow.st_eq {r : MRow} {c : Nat} (h : c < r.ss.length) : r.ss[c] = r.st c := by simp [MRow.st, h]
theorem Mac.Ok.row {m : Mac} (h : m.Ok) {q : Nat} (hq : q < m.rs.length) : (m.row q).Ok m.n m.rs.length := by
  rw [← Mac.row_eq hq]
  exact h.rs _ (List.getElem_mem hq)
theorem Mac.Ok.st {m : Mac} (h : m.Ok) {q c : Nat} (hq : q < m.rs.length) (hc : c < m.n) : MSt.Ok m.rs.length ((m.row q).st c) := by
  have r := h.row hq
  rw [← MRow.st_eq (by rw [r.len]; exact hc)]
  exact r.ss _ (List.getElem_mem _)
theorem ix_M0 {m : Mac} {s : S} : dIx (.p (eM m)) (.p (.int 0)) s = .ok (.p (.int m.n)) s := by simp [dIx, eM, ixAt_0, ret1]
theorem ix_M1 {m : Mac} {s : S} : dIx (.p (eM m)) (.p (.int 1)) s = .ok (.p (.tuple (m.rs.map eR))) s := by simp [dIx, eM, ixAt_1, ret1]
theorem ix_R0 {r : MRow} {s : S} : dIx (.p (eR r)) (.p (.int 0)) s = .ok (.p (eO r.fin)) s := by simp [dIx, eR, ixAt_0, ret1]
theorem ix_R1 {r : MRow} {s : S} : dIx (.p (eR r)) (.p (.int 1)) s = .ok (.p (.tuple (r.ss.map eS))) s := by simp [dIx, eR, ixAt_1, ret1]
theorem ix_S0 {p : Nat × Nat} {s : S} : dIx (.p (eS (some p))) (.p (.int 0)) s = .ok (.p (.int p.1)) s := by simp [dIx, eS, ixAt_0, ret1]
theorem ix_S1 {p : Nat × Nat} {s : S} : dIx (.p (eS (some p))) (.p (.int 1)) s = .ok (.p (.int p.2)) s := by simp [dIx, eS, ixAt_1, ret1]
theorem ix_rs {m : Mac} {q : Nat} (h : q < m.rs.length) {s : S} : dIx (.p (.tuple (m.rs.map eR))) (.p (.int q)) s = .ok (.p (eR (m.row q))) s := by
  simp [dIx, ixAt_nat (xs := m.rs.map eR) (n := q) (by simpa using h), Mac.row_eq h, ret1]
theorem ix_ss {r : MRow} {c : Nat} (h : c < r.ss.length) {s : S} : dIx (.p (.tuple (r.ss.map eS))) (.p (.int c)) s = .ok (.p (eS (r.st c))) s := by
  simp [dIx, ixAt_nat (xs := r.ss.map eS) (n := c) (by simpa using h), MRow.st_eq h, ret1]
theorem Mac.read_ok {m : Mac} (h : m.Ok) : ∀ {t : List Nat} {q f f' q' : Nat}, TxOk m.n t → q < m.rs.length → m.read q f t = (f', some q') → q' < m.rs.length
  | [], q, f, f', q', _, hq, e => by
    simp only [Mac.read, Prod.mk.injEq, Option.some.injEq] at e
    omega
  | c :: cs, q, f, f', q', ht, hq, e => by
    have hc := ht c List.mem_cons_self
    unfold Mac.read at e
    split at e
    · simp at e
    · rename_i p hp
      exact Mac.read_ok h (fun x hx => ht x (List.mem_cons_of_mem _ hx)) (h.st hq hc p hp).2 e
def eRead (p : Nat × Option Nat) : PyData := .tuple [.int p.1, eO p.2]
theorem rng0 {n : Nat} : rngItems 0 n = (List.range n).map fun k => D.p (eN k) := by
  simp [rngItems, eN]
theorem Mac.read_add {m : Mac} : ∀ (t : List Nat) (q f g : Nat), m.read q (f + g) t = ((m.read q f t).1 + g, (m.read q f t).2)
  | [], q, f, g => rfl
  | c :: t, q, f, g => by
    unfold Mac.read
    cases (m.row q).st c with
    | none => rfl
    | some p =>
      show m.read p.2 (f + g + p.1) t = _
      rw [show f + g + p.1 = f + p.1 + g by omega, Mac.read_add t]
theorem Mac.read_app {m : Mac} : ∀ (a b : List Nat) (q f : Nat), m.read q f (a ++ b) = match m.read q f a with
    | (f', none) => (f', none)
    | (f', some q') => m.read q' f' b
  | [], b, q, f => rfl
  | c :: a, b, q, f => by
    simp only [List.cons_append, Mac.read]
    cases (m.row q).st c with
    | none => rfl
    | some p => exact Mac.read_app a b p.2 (f + p.1)
theorem iEq_eO {a b : Option Nat} : iEq (eO a) (eO b) = some (.bool (decide (a = b))) := by
  cases a <;> cases b <;> simp [iEq, eO, SeqAt.shaped, PyData.canLay0, PyData.depth, PyData.eqv, beq_dec]
  all_goals omega
theorem iNe_eO {a b : Option Nat} : iNe (eO a) (eO b) = some (.bool (!decide (a = b))) := by
  cases a <;> cases b <;> simp [iNe, eO, SeqAt.shaped, PyData.canLay0, PyData.depth, PyData.eqv, beq_dec]
  all_goals omega
theorem iEq_tagN {x : Str} (h : PyData.strOk x = true) : iEq (.tuple [.str x, .none]) (.tuple [.str x, .none]) = some (.bool true) := by
  simp [iEq, SeqAt.shaped, PyData.canLay0, PyData.canLayAll0, PyData.depth, PyData.depthAll, PyData.eqv, PyData.eqvAll, h]
theorem iEq_tagO {x : Str} {a : Option Nat} (h : PyData.strOk x = true) : iEq (.tuple [.str x, eO a]) (.tuple [.str x, eO a]) = some (.bool true) := by
  cases a <;> simp [iEq, eO, SeqAt.shaped, PyData.canLay0, PyData.canLayAll0, PyData.depth, PyData.depthAll, PyData.eqv, PyData.eqvAll, h]
/-- a step, its target one row further down -/
def MSt.later (s : MSt) : MSt := s.map fun p => (p.1, p.2 + 1)
def MRow.later (r : MRow) : MRow := ⟨r.fin, r.ss.map MSt.later⟩
/-- the machine begun at a state -/
def Mac.begun (m : Mac) (q : Nat) : Mac := ⟨m.n, (m.row q :: m.rs).map MRow.later⟩
theorem MRow.later_st {r : MRow} {c : Nat} : r.later.st c = MSt.later (r.st c) := by
  unfold MRow.later MRow.st
  simp only [List.getElem?_map]
  cases r.ss[c]? <;> rfl
theorem Mac.begun_0 {m : Mac} {q : Nat} : (m.begun q).row 0 = (m.row q).later := rfl
theorem Mac.begun_s {m : Mac} {q k : Nat} (h : k < m.rs.length) : (m.begun q).row (k + 1) = (m.row k).later := by
  simp [Mac.begun, Mac.row, h]
theorem MSt.Ok.later {q : Nat} {s : MSt} (h : MSt.Ok q s) : MSt.Ok (q + 1) (MSt.later s) := by
  intro p e
  cases s with
  | none => cases e
  | some t =>
    cases e
    have := h t rfl
    exact ⟨this.1, by show t.2 + 1 < q + 1; omega⟩
theorem MRow.Ok.later {n q : Nat} {r : MRow} (h : MRow.Ok n q r) : MRow.Ok n (q + 1) r.later where
  len := by simp [MRow.later, h.len]
  fin := h.fin
  ss := by
    intro s hs
    obtain ⟨t, ht, rfl⟩ := List.mem_map.mp hs
    exact (h.ss t ht).later
theorem Mac.Ok.begun {m : Mac} (h : m.Ok) {q : Nat} (hq : q < m.rs.length) (h29 : m.rs.length ≤ 29) : (m.begun q).Ok where
  n1 := h.n1
  n8 := h.n8
  r1 := by simp [Mac.begun]
  r30 := by simp [Mac.begun]; omega
  rs := by
    intro r hr
    obtain ⟨t, ht, rfl⟩ := List.mem_map.mp hr
    have hl : (m.begun q).rs.length = m.rs.length + 1 := by simp [Mac.begun]
    rw [hl]
    rcases List.mem_cons.mp ht with rfl | ht
    · exact (h.row hq).later
    · exact (h.rs t ht).later
theorem Mac.begun_read {m : Mac} (h : m.Ok) {q0 : Nat} : ∀ {t : List Nat} {k f : Nat}, TxOk m.n t → k < m.rs.length → (m.begun q0).read (k + 1) f t = ((m.read k f t).1, (m.read k f t).2.map (· + 1))
  | [], k, f, _, _ => rfl
  | c :: t, k, f, ht, hk => by
    have hc := ht c List.mem_cons_self
    unfold Mac.read
    rw [Mac.begun_s hk, MRow.later_st]
    have := h.st hk hc
    cases hs : (m.row k).st c with
    | none => rfl
    | some p =>
      rw [hs] at this
      have := this p rfl
      exact Mac.begun_read h (fun x hx => ht x (List.mem_cons_of_mem _ hx)) this.2
/-- from any state -/
def Mac.lenF (m : Mac) (q f : Nat) (t : List Nat) : Option Nat := match m.read q f t with
  | (_, none) => none
  | (f', some q') => (m.row q').fin.map (f' + ·)
theorem Mac.lenF_add {m : Mac} {q f : Nat} {t : List Nat} : m.lenF q f t = (m.lenF q 0 t).map (f + ·) := by
  unfold Mac.lenF
  have := m.read_add t q 0 f
  rw [Nat.zero_add] at this
  rw [this]
  rcases m.read q 0 t with ⟨f', _ | q'⟩
  · rfl
  · simp only
    cases (m.row q').fin with
    | none => rfl
    | some e => simp; omega
theorem Mac.begun_len {m : Mac} (h : m.Ok) {q : Nat} (hq : q < m.rs.length) {t : List Nat} (ht : TxOk m.n t) : (m.begun q).len t = m.lenF q 0 t := by
  cases t with
  | nil => simp [Mac.len, Mac.lenF, Mac.read, Mac.begun_0, MRow.later]
  | cons c t =>
    have hc := ht c List.mem_cons_self
    unfold Mac.len Mac.lenF Mac.read
    rw [Mac.begun_0, MRow.later_st]
    have ok := h.st hq hc
    cases hs : (m.row q).st c with
    | none => rfl
    | some p =>
      rw [hs] at ok
      have ok := ok p rfl
      have ht' : TxOk m.n t := fun x hx => ht x (List.mem_cons_of_mem _ hx)
      show (match (m.begun q).read (p.2 + 1) (0 + p.1) t with
        | (_, none) => none
        | (f, some q') => ((m.begun q).row q').fin.map (f + ·)) = _
      rw [Mac.begun_read h ht' ok.2]
      rcases hr : m.read p.2 (0 + p.1) t with ⟨f', _ | q'⟩
      · simp only [hr, Option.map_none]
      · have hq' := Mac.read_ok h ht' ok.2 hr
        simp only [hr, Option.map_some]
        rw [Mac.begun_s hq']
        rfl
theorem Mac.len_cut {m : Mac} {a b : List Nat} {f q : Nat} (h : m.read 0 0 a = (f, some q)) : m.len (a ++ b) = (m.lenF q 0 b).map (f + ·) := by
  rw [← Mac.lenF_add]
  unfold Mac.len Mac.lenF
  rw [Mac.read_app, h]
/-! ### data to be spoilt: how deep, how wide -/
def Fl (A : Nat) : Nat → PyData → Prop
  | 0, x => (∀ ps, x ≠ .tuple ps) ∧ (x = .none ∨ ∃ i, x = .int i)
  | d + 1, x => (∃ ps, x = .tuple ps ∧ ps.length ≤ A ∧ ∀ p ∈ ps, Fl A d p) ∨ (x = .none ∨ ∃ i, x = .int i)
def nds : Nat → PyData → Nat
  | d + 1, .tuple ps => 1 + (ps.map (nds d)).sum
  | _, _ => 1
theorem nds_pos : ∀ (d : Nat) (x : PyData), 1 ≤ nds d x
  | 0, x => by simp [nds]
  | d + 1, x => by
    unfold nds
    split <;> omega
theorem sum_le {B : Nat} : ∀ {xs : List Nat}, (∀ x ∈ xs, x ≤ B) → xs.sum ≤ xs.length * B
  | [], _ => by simp
  | x :: xs, h => by
    have h1 := h x List.mem_cons_self
    have h2 := sum_le fun y hy => h y (List.mem_cons_of_mem _ hy)
    simp only [List.sum_cons, List.length_cons, Nat.succ_mul]
    omega
theorem nds_le {A : Nat} : ∀ {d : Nat} {x : PyData}, Fl A d x → nds d x ≤ (A + 1) ^ d
  | 0, x, _ => by simp [nds]
  | d + 1, x, h => by
    have hp : 0 < (A + 1) ^ d := Nat.pow_pos (by omega)
    rcases h with ⟨ps, rfl, hl, hp'⟩ | rfl | ⟨i, rfl⟩
    · have h1 : (ps.map (nds d)).sum ≤ (ps.map (nds d)).length * (A + 1) ^ d := sum_le fun y hy => by
        obtain ⟨z, hz, rfl⟩ := List.mem_map.mp hy
        exact nds_le (hp' z hz)
      rw [List.length_map] at h1
      have h2 : ps.length * (A + 1) ^ d ≤ A * (A + 1) ^ d := Nat.mul_le_mul_right _ hl
      have h3 : (A + 1) ^ (d + 1) = A * (A + 1) ^ d + (A + 1) ^ d := by rw [Nat.pow_succ, Nat.mul_comm, Nat.succ_mul]
      show 1 + (ps.map (nds d)).sum ≤ _
      omega
    · simp only [nds]
      rw [Nat.pow_succ]
      exact Nat.le_trans hp (Nat.le_mul_of_pos_right _ (by omega))
    · simp only [nds]
      rw [Nat.pow_succ]
      exact Nat.le_trans hp (Nat.le_mul_of_pos_right _ (by omega))
theorem Fl.up {A : Nat} : ∀ {d : Nat} {x : PyData}, Fl A d x → Fl A (d + 1) x
  | 0, x, h => .inr h.2
  | d + 1, x, h => by
    rcases h with ⟨ps, rfl, hl, hp⟩ | h
    · exact .inl ⟨ps, rfl, hl, fun p hp' => (hp p hp').up⟩
    · exact .inr h
theorem fl_eT {A : Nat} {t : List Nat} (h : t.length ≤ A) : Fl A 1 (eT t) := by
  refine .inl ⟨_, rfl, by simpa using h, fun p hp => ?_⟩
  obtain ⟨k, _, rfl⟩ := List.mem_map.mp hp
  exact ⟨(fun ps e => by cases e), .inr ⟨_, rfl⟩⟩
theorem fl_int {A d : Nat} {i : Int} : Fl A d (.int i) := by
  cases d with
  | zero => exact ⟨(fun ps e => by cases e), .inr ⟨_, rfl⟩⟩
  | succ d => exact .inr (.inr ⟨_, rfl⟩)
theorem fl_none {A d : Nat} : Fl A d .none := by
  cases d with
  | zero => exact ⟨(fun ps e => by cases e), .inl rfl⟩
  | succ d => exact .inr (.inl rfl)
theorem fl_eO {A d : Nat} {o : Option Nat} : Fl A d (eO o) := by
  cases o with
  | none => exact fl_none
  | some k => exact fl_int
theorem fl_eM {m : Mac} (h : m.Ok) : Fl 30 5 (eM m) := by
  have n8 := h.n8
  refine .inl ⟨_, rfl, by simp, fun p hp => ?_⟩
  simp only [List.mem_cons, List.not_mem_nil, or_false] at hp
  rcases hp with rfl | rfl
  · exact fl_int
  refine .inl ⟨_, rfl, by simpa using h.r30, fun p hp => ?_⟩
  obtain ⟨r, hr, rfl⟩ := List.mem_map.mp hp
  have hl := (h.rs r hr).len
  refine .inl ⟨_, rfl, by simp, fun p hp => ?_⟩
  simp only [List.mem_cons, List.not_mem_nil, or_false] at hp
  rcases hp with rfl | rfl
  · exact fl_eO
  refine .inl ⟨_, rfl, by simp; omega, fun p hp => ?_⟩
  obtain ⟨s, hs, rfl⟩ := List.mem_map.mp hp
  cases s with
  | none => exact fl_none
  | some p =>
    refine .inl ⟨_, rfl, by simp, fun p hp => ?_⟩
    simp only [List.mem_cons, List.not_mem_nil, or_false] at hp
    rcases hp with rfl | rfl
    · exact fl_int
    · exact fl_int
def smallT : PyData → Bool
  | .tuple ps => sizeOk ps.length
  | _ => true
end Mp

/-! MP, part N: dicts, membership, sorted, list methods. -/
namespace Mp
open PySem PySem.Spec PyProof.Rows L2

/-! ### lookups -/
def keyOf : PyData → Option L2.Key
  | .int i => some (.inl i)
  | .str x => some (.inr x)
  | _ => none
theorem keyOf_D (k : L2.Key) : keyOf (keyD k) = some k := by cases k <;> rfl
theorem keyOf_v {K : PySem.W.Frag} {H : Hp} {p : PyData} {k : L2.Key} {v : V} (h : RP K H p v) (e : keyOf p = some k) : v = kV k := by
  cases p <;> simp [keyOf] at e
  · subst e; exact rp_int h
  · subst e; exact rp_str h
def getK {κ α : Type} [DecidableEq κ] (kvs : List (κ × α)) (k : κ) : Option α := (kvs.find? fun p => decide (p.1 = k)).map (·.2)
def setK {κ α : Type} [DecidableEq κ] (kvs : List (κ × α)) (k : κ) (v : α) : List (κ × α) :=
  if (kvs.any fun p => decide (p.1 = k)) = true then kvs.map (fun p => if p.1 = k then (p.1, v) else p) else kvs ++ [(k, v)]
def delK {κ α : Type} [DecidableEq κ] (kvs : List (κ × α)) (k : κ) : List (κ × α) := kvs.filter fun p => decide (p.1 ≠ k)
section
variable {κ α : Type} [DecidableEq κ] {F : α → V → Prop}
abbrev PKv (F : α → V → Prop) : List (κ × α) → List (κ × V) → Prop := Paired (fun p q => p.1 = q.1 ∧ F p.2 q.2)
theorem PKv.get {kvs : List (κ × α)} {l : List (κ × V)} (h : PKv F kvs l) (k : κ) : (getK kvs k = none ∧ valV l k = none) ∨ ∃ x v, getK kvs k = some x ∧ valV l k = some v ∧ F x v := by
  induction h with
  | nil => exact .inl ⟨rfl, rfl⟩
  | @cons p q ps qs h t ih =>
    by_cases e : p.1 = k
    · right
      refine ⟨p.2, q.2, by simp [getK, List.find?_cons, e], ?_, h.2⟩
      have e' : q.1 = k := by rw [← h.1]; exact e
      simp [valV, List.find?_cons, e']
    · have e' : ¬ q.1 = k := by rw [← h.1]; exact e
      have e1 : getK (p :: ps) k = getK ps k := by simp [getK, List.find?_cons, e]
      have e2 : valV (q :: qs) k = valV qs k := by simp [valV, List.find?_cons, e']
      rw [e1, e2]
      exact ih
theorem PKv.any {kvs : List (κ × α)} {l : List (κ × V)} (h : PKv F kvs l) (k : κ) : (kvs.any fun p => decide (p.1 = k)) = (l.any fun p => decide (p.1 = k)) := by
  induction h with
  | nil => rfl
  | cons h t ih => simp only [List.any_cons, ih, h.1]
theorem PKv.set {kvs : List (κ × α)} {l : List (κ × V)} (h : PKv F kvs l) {k : κ} {x : α} {v : V} (q : F x v) : PKv F (setK kvs k x) (putK l k v) := by
  unfold setK putK
  rw [h.any k]
  split
  · rename_i hz
    clear hz
    induction h with
    | nil => exact .nil
    | @cons p r ps qs h t ih =>
      refine .cons ?_ ih
      by_cases e : p.1 = k
      · have e' : r.1 = k := by rw [← h.1]; exact e
        simp only [e, e', if_true]
        exact ⟨trivial, q⟩
      · have e' : ¬ r.1 = k := by rw [← h.1]; exact e
        simp only [e, e', if_false]
        exact h
  · exact Paired.app h (.cons ⟨rfl, q⟩ .nil)
theorem PKv.del {kvs : List (κ × α)} {l : List (κ × V)} (h : PKv F kvs l) {k : κ} : PKv F (delK kvs k) (dropK l k) := by
  unfold delK dropK
  induction h with
  | nil => exact .nil
  | @cons p r ps qs h t ih =>
    by_cases e : p.1 = k
    · have e' : r.1 = k := by rw [← h.1]; exact e
      simpa [e, e'] using ih
    · have e' : ¬ r.1 = k := by rw [← h.1]; exact e
      rw [List.filter_cons_of_pos (by simpa using e), List.filter_cons_of_pos (by simpa using e')]
      exact .cons h ih
end
/-- frozen or own, the pairs of a dict with ints or texts for keys -/
def kvD : List (PyData × PyData) → Option (List (L2.Key × D))
  | [] => some []
  | (k, x) :: r => match keyOf k, kvD r with
    | some k, some l => some ((k, .p x) :: l)
    | _, _ => none
def dictV (d : D) (s : S) : Option (List (L2.Key × D)) := match d with
  | .p (.dict kvs) => kvD kvs
  | .ref i => (match s.g[i]? with
    | some (some (.dct kvs)) => some kvs
    | _ => none)
  | _ => none
theorem kvD_ok {Y : Md} {c : Cf} : ∀ {kvs : List (PyData × PyData)} {l : List (L2.Key × V)} {ds : List (L2.Key × D)}, RPd Y.K c.H kvs (l.map fun p => (keyD p.1, p.2)) → kvD kvs = some ds → PKv (rd Y c) ds l
  | [], l, ds, h, e => by
    simp only [RPd] at h
    cases l with
    | nil => cases e; exact .nil
    | cons a b => simp at h
  | (k, x) :: r, l, ds, h, e => by
    simp only [RPd] at h
    obtain ⟨v, rr, e1, h1, h2⟩ := h
    cases l with
    | nil => simp at e1
    | cons a b =>
      simp only [List.map_cons, List.cons.injEq, Prod.mk.injEq] at e1
      obtain ⟨⟨e2, e3⟩, e4⟩ := e1
      subst e2 e4
      simp only [kvD, keyOf_D] at e
      split at e
      · rename_i k' l' ek el
        cases ek
        cases e
        exact .cons ⟨rfl, by rw [e3]; exact h1⟩ (kvD_ok h2 el)
      · cases e
theorem dictV_ok {Y : Md} {c : Cf} {d : D} {v : V} {kvs : List (L2.Key × D)} (rr : Rel Y c) (q : rd Y c d v) (e : dictV d c.s = some kvs) : ∃ a l, v = .ref a ∧ Rd c.H a (.dK l) ∧ PKv (rd Y c) kvs l := by
  unfold dictV at e
  split at e
  · have q : RP Y.K c.H (.dict _) v := q
    simp only [RP] at q
    obtain ⟨a, l, rfl, ⟨o, u, h1, rfl⟩, h2⟩ := q
    exact ⟨a, u, rfl, .inr ⟨o, h1⟩, kvD_ok h2 e⟩
  · rename_i i
    split at e
    · rename_i kvs' ex
      cases e
      obtain ⟨a, ea, l, ev, qs⟩ := rr.g i _ ex
      obtain ⟨a', ea', rfl⟩ := q
      rw [ea] at ea'; cases ea'
      exact ⟨a, l, rfl, .inl ev, qs⟩
    · cases e
  · cases e

/-! ### membership -/
section
variable {X : Cx}
def rDInO (neg : Bool) : R2 := fun y x H Q => ∃ a o, x = .ref a ∧ DGet H a y o ∧ Q (.bl (if neg then !o.isSome else o.isSome)) H
theorem op_inDct (hu : X.A.units + 1 < cLine) : OpR X (compareOp .In) (rDInO false) := by
  intro pins s σ H y x iv u Q I ry rx h
  obtain ⟨a, o, rfl, g, q⟩ := h
  obtain rfl : u = Value.ref a := rx
  exact d_in hu I g ry fun s3 I3 => ⟨.bl o.isSome, H, I3, rfl, q⟩
theorem op_notInDct (hu : X.A.units + 1 < cLine) : OpR X (compareOp .NotIn) (rDInO true) := by
  intro pins s σ H y x iv u Q I ry rx h
  obtain ⟨a, o, rfl, g, q⟩ := h
  obtain rfl : u = Value.ref a := rx
  exact d_notIn hu I g ry fun s3 I3 => ⟨.bl (!o.isSome), H, I3, rfl, q⟩
end
def flatP : PyData → Bool
  | .none => true
  | .bool _ => true
  | .int _ => true
  | .str _ => true
  | _ => false
theorem flat_v {K : PySem.W.Frag} {H : Hp} {p : PyData} {v : V} (h : RP K H p v) (e : flatP p = true) : flatV v = true := by
  cases p <;> simp [flatP] at e
  · rw [rp_none h]; rfl
  · rw [rp_bool h]; rfl
  · rw [rp_int h]; rfl
  · rw [rp_str h]; rfl
theorem flat_eqv {K : PySem.W.Frag} {H : Hp} {p q : PyData} {v u : V} (h : RP K H p v) (h' : RP K H q u) (e : flatP p = true) (e' : flatP q = true) : eqV v u = PyData.eqv p q := by
  cases p <;> simp [flatP] at e <;> cases q <;> simp [flatP] at e' <;>
    (first | rw [rp_none h] | rw [rp_bool h] | rw [rp_int h] | rw [rp_str h]) <;> (first | rw [rp_none h'] | rw [rp_bool h'] | rw [rp_int h'] | rw [rp_str h']) <;> simp [eqV, PyData.eqv]
theorem flat_all {K : PySem.W.Frag} {H : Hp} : ∀ {ps : List PyData} {vs : List V}, RPs K H ps vs → ps.all flatP = true → vs.all flatV = true
  | [], _, h, _ => by simp only [RPs] at h; subst h; rfl
  | p :: ps, _, h, e => by
    simp only [RPs] at h
    obtain ⟨v, r, rfl, h1, h2⟩ := h
    simp only [List.all_cons, Bool.and_eq_true] at e ⊢
    exact ⟨flat_v h1 e.1, flat_all h2 e.2⟩
theorem flat_in {K : PySem.W.Frag} {H : Hp} {x : PyData} {u : V} (hx : RP K H x u) (ex : flatP x = true) : ∀ {ps : List PyData} {vs : List V}, RPs K H ps vs → ps.all flatP = true → inV u vs = ps.any fun z => PyData.eqv z x
  | [], _, h, _ => by simp only [RPs] at h; subst h; rfl
  | p :: ps, _, h, e => by
    simp only [RPs] at h
    obtain ⟨v, r, rfl, h1, h2⟩ := h
    simp only [List.all_cons, Bool.and_eq_true] at e
    have ih := flat_in hx ex h2 e.2
    unfold inV at ih ⊢
    simp only [List.any_cons, ih, flat_eqv h1 hx e.1 ex]
/-- x in y -/
def inB (d1 d2 : D) (s : S) : Option Bool := match d2 with
  | .p (.str z) => (match d1 with
    | .p (.str x) => (match x.cps.toList with
      | [c] => some (decide (c ∈ z.cps.toList))
      | _ => none)
    | _ => none)
  | .p (.tuple ps) => (match d1 with
    | .p x => if flatP x && ps.all flatP then some (ps.any fun z => PyData.eqv z x) else none
    | _ => none)
  | d2 => (match lstP d2 s with
    | some ps => (match d1 with
      | .p x => if SeqAt.shaped x && SeqAt.shaped (.list ps) then some (ps.any fun z => PyData.eqv z x) else none
      | _ => none)
    | none => (match dictV d2 s, d1 with
      | some kvs, .p x => (keyOf x).map fun k => (getK kvs k).isSome
      | _, _ => none))
def dIn : D → D → S → R D := fun d1 d2 s => match inB d1 d2 s with
  | some b => .ok (.p (.bool b)) s
  | none => .bad
def dNotIn : D → D → S → R D := fun d1 d2 s => match inB d1 d2 s with
  | some b => .ok (.p (.bool (!b))) s
  | none => .bad
theorem one_sign {x : Str} {c : Nat} (h : x.cps.toList = [c]) : x = ⟨#[c]⟩ := by
  obtain ⟨a⟩ := x
  obtain ⟨l⟩ := a
  simp at h
  subst h
  rfl
theorem rd_dp {Y : Md} {c : Cf} {d : D} {v : V} {ps : List PyData} (rr : Rel Y c) (q : rd Y c d v) (e : lstP d c.s = some ps) (l : (PyData.list ps).canLay0 = true) : Dp Y.K c.H v (.list ps) := by
  obtain ⟨a, vs, rfl, h1, h2⟩ := lstP_ok rr q e
  exact .lst h1 (RPs.dp (by simpa [PyData.canLay0] using l) h2)
theorem inB_ok {Y : Md} {c : Cf} {d1 d2 : D} {v1 v2 : V} {b : Bool} (rr : Rel Y c) (q1 : rd Y c d1 v1) (q2 : rd Y c d2 v2) (e : inB d1 d2 c.s = some b) :
    (∃ (k : Nat) (z : Str), v1 = .str ⟨#[k]⟩ ∧ v2 = .str z ∧ b = decide (k ∈ z.cps.toList)) ∨ (∃ p xs, v2 = .ref p ∧ (SqL Y.K c.H p xs ∨ SqT Y.K c.H p xs) ∧ flatV v1 = true ∧ xs.all flatV = true ∧ b = inV v1 xs) ∨
    (∃ d ds, Dp Y.K c.H v1 d ∧ Dp Y.K c.H v2 (.list ds) ∧ SeqAt.shaped d = true ∧ SeqAt.shaped (.list ds) = true ∧ b = ds.any fun z => PyData.eqv z d) ∨ ∃ a o, v2 = .ref a ∧ DGet c.H a v1 o ∧ b = o.isSome := by
  unfold inB at e
  split at e
  · rename_i z
    split at e
    · rename_i x
      split at e
      · rename_i k hk
        cases e
        refine .inl ⟨k, z, ?_, rd_str q2, rfl⟩
        rw [rd_str q1, one_sign hk]
      · cases e
    · cases e
  · rename_i ps
    split at e
    · rename_i x
      split at e
      · rename_i hz
        cases e
        simp only [Bool.and_eq_true] at hz
        obtain ⟨a, vs, rfl, h1, h2⟩ := rd_tup q2
        exact .inr (.inl ⟨a, vs, rfl, .inr h1, flat_v q1 hz.1, flat_all h2 hz.2, (flat_in q1 hz.1 h2 hz.2).symm⟩)
      · cases e
    · cases e
  · split at e
    · rename_i ps el
      split at e
      · rename_i x
        split at e
        · rename_i hz
          cases e
          simp only [Bool.and_eq_true] at hz
          exact .inr (.inr (.inl ⟨x, ps, RP.dp (shaped_can hz.1) q1, rd_dp rr q2 el (shaped_can hz.2), hz.1, hz.2, rfl⟩))
        · cases e
      · cases e
    · split at e
      · rename_i _ _ _ kvs x ek
        obtain ⟨k, ekk, rfl⟩ := Option.map_eq_some_iff.mp e
        obtain ⟨a, l, rfl, h1, h2⟩ := dictV_ok rr q2 ek
        refine .inr (.inr (.inr ⟨a, valV l k, rfl, .inl ⟨l, k, h1, keyOf_v q1 ekk, rfl⟩, ?_⟩))
        rcases h2.get k with ⟨z1, z2⟩ | ⟨x, v, z1, z2, _⟩
        · rw [z1, z2]; rfl
        · rw [z1, z2]; rfl
      · cases e
section
variable {X : Cx} {W : WX} {pos : Pos} {a b : Expr} {ma mb : ME} {es : List Expr} {ms : MA}
theorem o_in (hu : X.A.units + 65 < cLine) : Op2 X (compareOp .In) dIn := ⟨_, ((op_in_sign.or op_in_seq).or (op_inD hu)).or (op_inDct (by omega)), fun WE c d1 d2 v1 v2 Q rr q1 q2 h => by
  unfold dIn at h
  split at h
  · rename_i b e
    rcases inB_ok rr q1 q2 e with ⟨k, z, e1, e2, rfl⟩ | ⟨p, xs, e1, e2, e3, e4, rfl⟩ | ⟨d, ds, e1, e2, e3, e4, rfl⟩ | ⟨a, o, e1, e2, rfl⟩
    · exact .inl (.inl (.inl ⟨k, z, e1, e2, h.p rr mk_bool⟩))
    · exact .inl (.inl (.inr ⟨p, xs, e1, e2, e3, e4, h.p rr mk_bool⟩))
    · exact .inl (.inr ⟨d, ds, e1, e2, e3, e4, h.p rr mk_bool⟩)
    · exact .inr ⟨a, o, e1, e2, h.p rr mk_bool⟩
  · exact h.elim⟩
theorem o_notin (hu : X.A.units + 65 < cLine) : Op2 X (compareOp .NotIn) dNotIn := ⟨_, ((op_notIn_sign.or op_notIn_seq).or (op_notInD hu)).or (op_notInDct (by omega)), fun WE c d1 d2 v1 v2 Q rr q1 q2 h => by
  unfold dNotIn at h
  split at h
  · rename_i b e
    rcases inB_ok rr q1 q2 e with ⟨k, z, e1, e2, rfl⟩ | ⟨p, xs, e1, e2, e3, e4, rfl⟩ | ⟨d, ds, e1, e2, e3, e4, rfl⟩ | ⟨a, o, e1, e2, rfl⟩
    · exact .inl (.inl (.inl ⟨k, z, e1, e2, h.p rr mk_bool⟩))
    · exact .inl (.inl (.inr ⟨p, xs, e1, e2, e3, e4, h.p rr mk_bool⟩))
    · exact .inl (.inr ⟨d, ds, e1, e2, e3, e4, h.p rr mk_bool⟩)
    · exact .inr ⟨a, o, e1, e2, h.p rr mk_bool⟩
  · exact h.elim⟩

/-! ### d[k] -/
def rDItem : R2 := fun x y H Q => ∃ a v, x = .ref a ∧ DGet H a y (some v) ∧ Q v H
def dIxD : D → D → S → R D := fun d1 d2 s => match d2, dictV d1 s with
  | .p x, some kvs => (match (keyOf x).bind (getK kvs) with
    | some d => .ok d s
    | none => .bad)
  | _, _ => .bad
theorem link_ixD {Y : Md} : Link2 Y dIxD rDItem := by
  intro WE c d1 d2 v1 v2 Q rr q1 q2 h
  unfold dIxD at h
  split at h
  · rename_i x kvs ek
    split at h
    · rename_i d ed
      obtain ⟨k, e1, e2⟩ := Option.bind_eq_some_iff.mp ed
      obtain ⟨a, l, rfl, h1, h2⟩ := dictV_ok rr q1 ek
      rcases h2.get k with ⟨z1, z2⟩ | ⟨x', v, z1, z2, z3⟩
      · rw [e2] at z1; cases z1
      · rw [e2] at z1; cases z1
        exact ⟨a, v, rfl, .inl ⟨l, k, h1, keyOf_v q2 e1, z2.symm⟩, Post.here (RA := rd Y) h rr z3⟩
    · exact h.elim
  · exact h.elim
theorem e_ixD (hu : X.A.units + 1 < cLine) (ha : PE X a (LE X W ma)) (hb : PE X b (LE X W mb)) (hs : NoSl b := by intro _ _; rfl) : PE X (.Subscript a b pos) (LE X W (mBin dIxD ma mb)) :=
  (pe_dget hu ha hb hs).imp fun σ H Q h => tOp_of link_ixD h

/-! ### d[k] = v -/
def setDk (o i d : D) (s : S) : Option S := match o, i with
  | .ref j, .p x => (match s.g[j]?, keyOf x with
    | some (some (.dct kvs)), some k => if sizeOk (kvs.length + 1) then some { s with g := s.g.set j (some (.dct (setK kvs k d))) } else none
    | _, _ => none)
  | _, _ => none
def gDk (mo mi : ME) : MG := fun d env s => (mo env s).bind fun o s1 => (mi env s1).bind fun i s2 => match setDk o i d s2 with
  | some s3 => .ok env s3
  | none => .bad
theorem g_dk {o i : Expr} {mo mi : ME} (hu : X.A.units + 1 < cLine) (ho : PE X o (LE X W mo)) (hi : PE X i (LE X W mi)) (ha : AsgIx X o i pos := by intro _; rfl) : PG X (.Subscript o i pos) (LG X W (gDk mo mi)) := by
  refine (pg_sub ho hi (set_dict hu) ha).imp fun v σ H Q ⟨d, env, c, e, re, r, q, h⟩ => ?_
  refine ⟨env, c, e, re, r, h.bind fun o' vo c1 s1 r1 q1 h1 => ⟨env, c1, rfl, re.step r s1, r1, h1.bind fun i' vi c2 s2 r2 q2 h2 => ?_⟩⟩
  split at h2
  · rename_i s3 e3
    unfold setDk at e3
    split at e3
    · rename_i j x
      split at e3
      · rename_i kvs k ex ek
        split at e3
        · rename_i hz
          cases e3
          obtain ⟨a, ea, l, ev, qs⟩ := r2.g j _ ex
          obtain ⟨a', ea', rfl⟩ := q1.step r1 s2
          rw [ea] at ea'; cases ea'
          have st : Stay c2.H (upd c2.H a (.dK (putK l k v))) := stay_poke fun w e => by rw [ev] at e; cases e; trivial
          have qv := (q.step r s1).step r1 s2
          refine ⟨a, _, rfl, .inl ⟨l, k, ev, keyOf_v q2 ek, ?_, rfl⟩, ?_⟩
          · rw [← Paired.length qs]
            have : kvs.length + 1 ≤ sizeLine := of_decide_eq_true hz
            omega
          · refine h2 σ (c2.put j a (.dK (putK l k v)) (some (.dct (setK kvs k d)))) rfl (Stp.put ex ea) (r2.put ex ea (fun y e => ?_) st) ?_
            · cases e
              refine ⟨_, upd_same, ?_⟩
              have p : PKv (rd (yx X) c2) (setK kvs k d) (putK l k v) := PKv.set qs qv
              exact Paired.mapP p fun _ _ z => ⟨z.1, z.2.up (fun _ _ y => y) (fun _ _ y => y) st⟩
            · exact ((re.step r s1).step r1 s2).step r2 (Stp.put ex ea)
        · cases e3
      · cases e3
    · cases e3
  · exact h2.elim

/-! ### new dicts -/
def newDct (kvs : List (L2.Key × D)) (s : S) : R D := .ok (.ref s.g.length) { s with g := s.g ++ [some (.dct kvs)] }
def mDNew : ME := fun _ s => newDct [] s
theorem e_dnew : PE X (.Dict [] [] pos) (LE X W mDNew) := by
  refine pe_dnewK.imp fun σ H Q ⟨env, c, e, re, r, h⟩ => fun p np => ?_
  subst e
  refine h (.ref p) (c.new p (.dK []) (.dct [])) rfl (Stp.new r np) (r.new np ⟨[], upd_same, .nil⟩) ⟨p, ?_, rfl⟩
  show (c.m ++ [p])[c.s.g.length]? = some p
  rw [← r.gl]; simp
theorem stay_dK {H : Hp} {a : Addr} {l : List (L2.Key × V)} {u : HO} (hD : H a = some (.dK l)) : Stay H (upd H a u) := fun b => by
  refine ⟨fun xs e => ?_, fun o w e => ?_⟩
  · rw [upd_ne]
    · exact e
    · intro z; subst z; rw [hD] at e; cases e
  · rw [upd_ne]
    · exact e
    · intro z; subst z; rw [hD] at e; cases e
def mDict1 (ma mb : ME) : ME := fun env s => (ma env s).bind fun d1 s1 => (mb env s1).bind fun d2 s2 => match d1 with
  | .p x => (match keyOf x with
    | some k => newDct [(k, d2)] s2
    | none => .bad)
  | _ => .bad
theorem e_disp1O (ha : PE X a (LE X W ma)) (hb : PE X b (LE X W mb)) : PE X (.Dict [some a] [b] pos) (LE X W (mDict1 ma mb)) := by
  refine (pe_disp (pps_cons ha hb pps_nil) (by rfl) (by rfl) (by intro z; cases z) (by simp)).imp fun σ H Q ⟨env, c, e, re, r, h⟩ => fun p np => ?_
  subst e
  have st : Stp c (c.at p (.dK [])) := Stp.at np
  have r' := r.at (u := .dK []) np
  have nO' : ¬ (c.at p (.dK [])).Own p := r.freshOwn np
  refine ⟨env, c.at p (.dK []), rfl, re.step r st, r', h.bind0 (RA := rd (yx X)) st fun d1 v1 c1 s1 r1 q1 h1 => ⟨env, c1, rfl, (re.step r st).step r' s1, r1, h1.bind0 (RA := rd (yx X)) (st.trans s1) fun d2 v2 c2 s2 r2 q2 h2 => ?_⟩⟩
  have keep : c2.H p = some (.dK []) ∧ ¬ c2.Own p := by
    have s12 := s1.trans s2
    have e0 : (c.at p (.dK [])).H p = some (.dK []) := upd_same
    refine ⟨s12.ext p _ e0 nO', fun z => ?_⟩
    rcases s12.own p z with z | z
    · exact nO' z
    · rw [e0] at z; cases z
  obtain ⟨hD, nO⟩ := keep
  split at h2
  · rename_i x
    split at h2
    · rename_i k ek
      have e1 : v1 = kV k := keyOf_v q1 ek
      refine ⟨hD, [(k, v2)], by rw [e1]; rfl, by simp, ?_⟩
      have stay : Stay c2.H (upd c2.H p (.dK [(k, v2)])) := stay_dK hD
      have r3 := r2.poke (u' := .dK [(k, v2)]) hD trivial nO
      let c3 : Cf := { c2 with H := upd c2.H p (.dK [(k, v2)]) }
      have hg : (c3.m ++ [p])[c3.s.g.length]? = some p := by
        show (c2.m ++ [p])[c2.s.g.length]? = some p
        rw [← r2.gl]; simp
      have hD3 : c3.H p = some (.dK [(k, v2)]) := upd_same
      have st3 : Stp c c3 := ((st.trans s1).trans s2).poke (.inl np)
      exact h2 (.ref p) (c3.adopt p (.dct [(k, d2)])) rfl (st3.adopt r3 np) (r3.adopt nO ⟨_, hD3, .cons ⟨rfl, q2.up (fun i a e => get_app e) (fun _ _ z => z) stay⟩ .nil⟩) ⟨p, hg, rfl⟩
    · exact h2.elim
  · exact h2.elim

/-! ### dict comprehensions -/
open Classical in
noncomputable def dcL0 (ok : S → Prop) (g : MG) (tt : MT) (mk mv : ME) (env0 : Env1) (k : List (L2.Key × D) → S → R D) : List D → List (L2.Key × D) → S → R D
  | [], acc, s => if ok s then k acc s else .bad
  | x :: xs, acc, s => if ok s then (noex (g x env0 s)).bind fun env1 s1 => (noex (tt env1 s1)).bind fun b s2 =>
      if b then (noex (mk env1 s2)).bind fun kd s3 => (noex (mv env1 s3)).bind fun vd s4 => match kd with
        | .p kp => (match keyOf kp with
          | some key => dcL0 ok g tt mk mv env0 k xs (setK acc key vd) s4
          | none => .bad)
        | _ => .bad
      else dcL0 ok g tt mk mv env0 k xs acc s2
    else .bad
theorem dcL_ex : ∃ f : (S → Prop) → MG → MT → ME → ME → Env1 → (List (L2.Key × D) → S → R D) → List D → List (L2.Key × D) → S → R D, f = dcL0 := ⟨_, rfl⟩
noncomputable def dcL : (S → Prop) → MG → MT → ME → ME → Env1 → (List (L2.Key × D) → S → R D) → List D → List (L2.Key × D) → S → R D := Classical.choose dcL_ex
theorem dcL_seal : dcL = dcL0 := Classical.choose_spec dcL_ex
open Classical in
theorem dcL_e0 {ok : S → Prop} {g : MG} {tt : MT} {mk mv : ME} {env0 : Env1} {k : List (L2.Key × D) → S → R D} {acc : List (L2.Key × D)} {s : S} : dcL ok g tt mk mv env0 k [] acc s = if ok s then k acc s else .bad := by rw [dcL_seal]; rfl
open Classical in
theorem dcL_e1 {ok : S → Prop} {g : MG} {tt : MT} {mk mv : ME} {env0 : Env1} {k : List (L2.Key × D) → S → R D} {x : D} {xs : List D} {acc : List (L2.Key × D)} {s : S} : dcL ok g tt mk mv env0 k (x :: xs) acc s = if ok s then (noex (g x env0 s)).bind fun env1 s1 => (noex (tt env1 s1)).bind fun b s2 =>
      if b then (noex (mk env1 s2)).bind fun kd s3 => (noex (mv env1 s3)).bind fun vd s4 => match kd with
        | .p kp => (match keyOf kp with
          | some key => dcL ok g tt mk mv env0 k xs (setK acc key vd) s4
          | none => .bad)
        | _ => .bad
      else dcL ok g tt mk mv env0 k xs acc s2
    else .bad := by rw [dcL_seal]; rfl
noncomputable def mDc (mi : MI) (vs : List Nat) (g : MG) (tt : MT) (mk mv : ME) (k : List (L2.Key × D) → S → R D) : ME := fun env s => (mi env s).bind fun src s1 =>
  if sizeOk src.items.length then dcL src.ok g tt mk mv (wipeE env vs) k src.items [] s1 else .bad
theorem setK_len {κ α : Type} [DecidableEq κ] {kvs : List (κ × α)} {k : κ} {v : α} : (setK kvs k v).length ≤ kvs.length + 1 := by
  unfold setK
  split <;> simp
theorem dc_turns {W : WX} {src : Src} {J : It} {t : TG} {g : MG} {tt : MT} {mk mv : ME} {vs : List Nat} {c0 : Cf} (rs : RSrc (yx X) c0 src J) (tg : TgOk (yx X) t g vs) {σ : L2.St} {env : Env1} (re : RE (yx X) c0 env σ) (r : Rel (yx X) c0) {k : List (L2.Key × D) → S → R D} {WE : Value → Option Addr → Hp → Prop} {Qf Q : VK} {Dl : Addr} (nD : c0.H Dl = none)
    (hz : sizeOk src.items.length = true) (h : Post (yx X) (rd (yx X)) WE c0 (dcL src.ok g tt mk mv (wipeE env vs) k src.items [] c0.s) Qf)
    (fin : ∀ c ds us, Stp c0 c → Rel (yx X) c → c.H Dl = some (.dK us) → ¬ c.Own Dl → PKv (rd (yx X) c) ds us → Post (yx X) (rd (yx X)) WE c0 (k ds c.s) Qf → Q (.ref Dl) c.H) :
    ∃ Wm : Nat → Nat → Hp → Prop, (∃ m, Wm 0 m (upd c0.H Dl (.dK []))) ∧ ∀ i m H, Wm i m H →
      (J.stop i H ∧ Q (.ref Dl) H) ∨ (J.go i H ∧ ∃ Nx : Hp → Prop, (∀ H', Nx H' → ∃ m', m' < m ∧ Wm (i + 1) m' H') ∧ ∀ x H', J.yld i H x H' → t x (wipe σ vs) H' fun σ2 H2 => wipe σ2 vs = wipe σ vs ∧ LT X W tt σ2 H2 fun b H3 =>
        if b = true then LE X W mk σ2 H3 fun y H4 => LE X W mv σ2 H4 fun z H5 => ∃ kvs key, y = kV key ∧ H5 Dl = some (.dK kvs) ∧ kvs.length < sizeLine ∧ Nx (upd H5 Dl (.dK (putK kvs key z))) else Nx H3) := by
  have hz' : src.items.length ≤ sizeLine := of_decide_eq_true hz
  let St := fun (i : Nat) (H : Hp) (xs : List D) => ∃ c accD accV, c.H = H ∧ Stp c0 c ∧ Rel (yx X) c ∧ c.H Dl = some (.dK accV) ∧ ¬ c.Own Dl ∧ PKv (rd (yx X) c) accD accV ∧ accD.length ≤ i ∧ RE (yx X) c (wipeE env vs) (wipe σ vs) ∧
    Post (yx X) (rd (yx X)) WE c0 (dcL src.ok g tt mk mv (wipeE env vs) k xs accD c.s) Qf
  refine ⟨fun i m H => i ≤ src.items.length ∧ m = src.items.length - i ∧ St i H (src.items.drop i),
    ⟨_, Nat.zero_le _, rfl, c0.at Dl (.dK []), [], [], rfl, Stp.at nD, r.at nD, upd_same, r.freshOwn nD, .nil, Nat.le_refl _, ((re.wipe vs).step r (Stp.at nD)), by simpa [Cf.at] using h⟩, ?_⟩
  rintro i m H ⟨hi, rfl, c, accD, accV, rfl, st, rc, hD, nO, qa, la, rew, h⟩
  by_cases hlt : i < src.items.length
  · right
    rw [List.drop_eq_getElem_cons hlt] at h
    simp only [dcL_e0, dcL_e1] at h
    split at h
    · rename_i ok
      refine ⟨rs.go c i st rc ok hlt, fun H' => St (i + 1) H' (src.items.drop (i + 1)), fun H' hs => ⟨_, by omega, hlt, rfl, hs⟩, fun v H' y => ?_⟩
      obtain ⟨c1, rfl, e1, s1, r1, q1⟩ := rs.yld c i _ v H' st rc ok (List.getElem?_eq_getElem hlt) y
      have keepD : ∀ {c2 : Cf}, Stp c c2 → c2.H Dl = some (.dK accV) ∧ ¬ c2.Own Dl := fun {c2} s => ⟨s.ext Dl _ hD nO, fun z => by
        rcases s.own Dl z with z | z
        · exact nO z
        · rw [hD] at z; cases z⟩
      rw [← e1] at h
      refine tg σ _ c1 _ v WE _ (rew.step rc s1) r1 q1 (h.bindN fun env2 σ2 c2 s2 r2 re2 h2 => ⟨env2, c2, rfl, re2, r2, h2.bindN fun b b' c3 s3 r3 q3 h3 => ?_⟩)
      cases q3
      have s03 := (s1.trans s2).trans s3
      cases b with
      | true =>
        refine iteT ⟨env2, c3, rfl, re2.step r2 s3, r3, ?_⟩
        simp only [if_true] at h3
        refine h3.bindN fun kd yk c4 s4 r4 q4 h4 => ⟨env2, c4, rfl, (re2.step r2 s3).step r3 s4, r4, h4.bindN fun vd u c5 s5 r5 q5 h5 => ?_⟩
        have s05 := (s03.trans s4).trans s5
        obtain ⟨hD5, nO5⟩ := keepD s05
        have la5 : accV.length < sizeLine := by rw [← Paired.length qa]; omega
        split at h5
        · rename_i kp
          split at h5
          · rename_i key ek
            have ey : yk = kV key := keyOf_v q4 ek
            refine ⟨accV, key, ey, hD5, la5, ?_⟩
            have r6 := r5.poke (u' := .dK (putK accV key u)) hD5 trivial nO5
            have st6 := (st.trans s05).poke (a := Dl) (u' := .dK (putK accV key u)) (.inl nD)
            have stay6 : Stay c5.H (upd c5.H Dl (.dK (putK accV key u))) := stay_dK hD5
            refine ⟨{ c5 with H := upd c5.H Dl (.dK (putK accV key u)) }, setK accD key vd, putK accV key u, rfl, st6, r6, upd_same, nO5, ?_, by have := setK_len (kvs := accD) (k := key) (v := vd); omega, ?_, h5⟩
            · have qa5 : PKv (rd (yx X) c5) accD accV := Paired.mapP qa fun _ _ z => ⟨z.1, z.2.step rc s05⟩
              have p : PKv (rd (yx X) c5) (setK accD key vd) (putK accV key u) := PKv.set qa5 q5
              exact Paired.mapP p fun _ _ z => ⟨z.1, z.2.up (fun _ _ y => y) (fun _ _ y => y) stay6⟩
            · exact ⟨rew.1.trans (by simp), fun j d' e => let ⟨w, e1, z⟩ := (rew.step rc s05).2 j d' e; ⟨w, e1, z.up (fun _ _ y => y) (fun _ _ y => y) stay6⟩⟩
          · exact h5.elim
        · exact h5.elim
      | false =>
        refine iteF ?_
        simp only [Bool.false_eq_true, if_false] at h3
        obtain ⟨hD3, nO3⟩ := keepD s03
        exact ⟨c3, accD, accV, rfl, st.trans s03, r3, hD3, nO3, Paired.mapP qa fun _ _ z => ⟨z.1, z.2.step rc s03⟩, by omega, rew.step rc s03, h3⟩
    · exact h.elim
  · left
    have e : i = src.items.length := by omega
    subst e
    rw [List.drop_length] at h
    simp only [dcL_e0, dcL_e1] at h
    split at h
    · rename_i ok
      exact ⟨rs.stop c st rc ok, fin c accD accV st rc hD nO qa h⟩
    · exact h.elim
def kFrzD : List (L2.Key × D) → S → R D := fun ds s => match allKP ds with
  | some ps => .ok (.p (.dict ps)) s
  | none => .bad
theorem tDc_own {wi : TI} {mi : MI} {t : TG} {g : MG} {tt : MT} {mk mv : ME} {vs : List Nat} (tg : TgOk (yx X) t g vs) {σ : L2.St} {H : Hp} {Q : VK} (h : LE X W (mDc mi vs g tt mk mv newDct) σ H Q) :
    tDc (LI X W mi) t (LT X wNo tt) (LE X wNo mk) (LE X wNo mv) vs σ H Q := by
  obtain ⟨env, c, e, re, r, h⟩ := h
  refine ⟨env, c, e, re, r, h.bind fun src J c1 s1 r1 rs h1 => fun Dl nD => ?_⟩
  split at h1
  · rename_i hz
    refine dc_turns rs tg (re.step r s1) r1 nD hz h1 fun c2 ds us st r2 hD nO qd h2 => ?_
    have hg : (c2.m ++ [Dl])[c2.s.g.length]? = some Dl := by rw [← r2.gl]; simp
    exact h2 (.ref Dl) (c2.adopt Dl (.dct ds)) rfl (st.adopt r2 nD) (r2.adopt nO ⟨us, hD, Paired.mapP qd fun _ _ z => ⟨z.1, z.2.up (fun i a e => get_app e) (fun _ _ z => z) (fun a => ⟨fun _ z => z, fun _ _ z => z⟩)⟩⟩) ⟨Dl, hg, rfl⟩
  · exact h1.elim
theorem tDc_frz {wi : TI} {mi : MI} {t : TG} {g : MG} {tt : MT} {mk mv : ME} {vs : List Nat} (tg : TgOk (yx X) t g vs) {σ : L2.St} {H : Hp} {Q : VK} (h : LE X W (mDc mi vs g tt mk mv kFrzD) σ H Q) :
    tDc (LI X W mi) t (LT X wNo tt) (LE X wNo mk) (LE X wNo mv) vs σ H fun v H' => FZ (Q v) H' := by
  obtain ⟨env, c, e, re, r, h⟩ := h
  refine ⟨env, c, e, re, r, h.bind fun src J c1 s1 r1 rs h1 => fun Dl nD => ?_⟩
  split at h1
  · rename_i hz
    refine dc_turns (W := wNo) (Q := fun v H' => FZ (Q v) H') rs tg (re.step r s1) r1 nD hz h1 fun c2 ds us st r2 hD nO qd h2 => ?_
    unfold kFrzD at h2
    cases ea : allKP ds with
    | none => rw [ea] at h2; exact h2.elim
    | some ps =>
      rw [ea] at h2
      refine .one Dl (.dK us) hD trivial fun o => .done ?_
      have stay : Stay c2.H (upd c2.H Dl (.frz o (.dK us))) := stay_dK hD
      refine h2 (.ref Dl) { c2 with H := upd c2.H Dl (.frz o (.dK us)) } rfl (st.poke (.inl nD)) (r2.poke hD trivial nO) ?_
      show RP X.K (upd c2.H Dl (.frz o (.dK us))) (.dict ps) (.ref Dl)
      simp only [RP]
      exact ⟨Dl, _, rfl, ⟨o, us, upd_same, rfl⟩, RPd.stay stay (allKP_ok qd ea)⟩
  · exact h1.elim
section
variable {kx vx tg iter : Expr} {ifs : List Expr} {scope : Scope} {own : List (Str × Nat)} {mi : MI} {t : TG} {g : MG} {tt : MT} {mk mv : ME}
theorem e_dcO (hc : X.calm = true) (hN : X.N.Nodup) (hi : PI X tg iter (LI X W mi)) (ok : BlkOk X.N X.env.scope scope own) (tk : TgOk (yx X) t g (own.map (·.2)))
    (hg : ∀ (s : Shared) (H : Hp) (C : Addr) (cl : List (Str × Addr)) (fp : List Addr), PG (X.blk s H scope (compEnvC scope cl C X.env) fp) tg t)
    (ht : ∀ (s : Shared) (H : Hp) (C : Addr) (cl : List (Str × Addr)) (fp : List Addr), PTs (X.blk s H scope (compEnvC scope cl C X.env) fp) ifs (LT (X.blk s H scope (compEnvC scope cl C X.env) fp) wNo tt))
    (hk : ∀ (s : Shared) (H : Hp) (C : Addr) (cl : List (Str × Addr)) (fp : List Addr), PE (X.blk s H scope (compEnvC scope cl C X.env) fp) kx (LE (X.blk s H scope (compEnvC scope cl C X.env) fp) wNo mk))
    (he : ∀ (s : Shared) (H : Hp) (C : Addr) (cl : List (Str × Addr)) (fp : List Addr), PE (X.blk s H scope (compEnvC scope cl C X.env) fp) vx (LE (X.blk s H scope (compEnvC scope cl C X.env) fp) wNo mv)) (hs : ∀ x, foldedSetIterable iter X.env x = pure x := by intro _; rfl) :
    PE X (.DictComp kx vx [⟨tg, iter, ifs, 0⟩] scope pos) (LE X W (mDc mi (own.map (·.2)) g tt mk mv newDct)) :=
  (pe_dc hc hN hi ok hg ht hk he hs).imp fun σ H Q h => tDc_own (wi := LI X W mi) tk h
theorem e_dcF (hc : X.calm = true) (hN : X.N.Nodup) (hi : PI X tg iter (LI X W mi)) (ok : BlkOk X.N X.env.scope scope own) (tk : TgOk (yx X) t g (own.map (·.2)))
    (hg : ∀ (s : Shared) (H : Hp) (C : Addr) (cl : List (Str × Addr)) (fp : List Addr), PG (X.blk s H scope (compEnvC scope cl C X.env) fp) tg t)
    (ht : ∀ (s : Shared) (H : Hp) (C : Addr) (cl : List (Str × Addr)) (fp : List Addr), PTs (X.blk s H scope (compEnvC scope cl C X.env) fp) ifs (LT (X.blk s H scope (compEnvC scope cl C X.env) fp) wNo tt))
    (hk : ∀ (s : Shared) (H : Hp) (C : Addr) (cl : List (Str × Addr)) (fp : List Addr), PE (X.blk s H scope (compEnvC scope cl C X.env) fp) kx (LE (X.blk s H scope (compEnvC scope cl C X.env) fp) wNo mk))
    (he : ∀ (s : Shared) (H : Hp) (C : Addr) (cl : List (Str × Addr)) (fp : List Addr), PE (X.blk s H scope (compEnvC scope cl C X.env) fp) vx (LE (X.blk s H scope (compEnvC scope cl C X.env) fp) wNo mv)) (hs : ∀ x, foldedSetIterable iter X.env x = pure x := by intro _; rfl) :
    PE X (.DictComp kx vx [⟨tg, iter, ifs, 0⟩] scope pos) (LE X W (mDc mi (own.map (·.2)) g tt mk mv kFrzD)) :=
  ((pe_dc hc hN hi ok hg ht hk he hs).fz).imp fun σ H Q h => tDc_frz (wi := LI X W mi) tk h
end

/-! ### sorted -/
def insI (x : Int) : List Int → List Int
  | [] => [x]
  | y :: r => if x ≤ y then x :: y :: r else y :: insI x r
def srtI : List Int → List Int
  | [] => []
  | x :: r => insI x (srtI r)
theorem insI_perm (x : Int) : ∀ l : List Int, (insI x l).Perm (x :: l)
  | [] => .refl _
  | y :: r => by
    unfold insI
    split
    · exact .refl _
    · exact ((insI_perm x r).cons y).trans (.swap x y r)
theorem srtI_perm : ∀ l : List Int, (srtI l).Perm l
  | [] => .refl _
  | x :: r => (insI_perm x (srtI r)).trans ((srtI_perm r).cons x)
theorem insI_srt (x : Int) : ∀ {l : List Int}, l.Pairwise (· ≤ ·) → (insI x l).Pairwise (· ≤ ·)
  | [], _ => by simp [insI]
  | y :: r, h => by
    unfold insI
    obtain ⟨h1, h2⟩ := List.pairwise_cons.mp h
    split
    · rename_i hx
      refine List.pairwise_cons.mpr ⟨fun z hz => ?_, h⟩
      rcases List.mem_cons.mp hz with rfl | hz
      · exact hx
      · exact Int.le_trans hx (h1 z hz)
    · rename_i hx
      refine List.pairwise_cons.mpr ⟨fun z hz => ?_, insI_srt x h2⟩
      rcases List.mem_cons.mp ((insI_perm x r).mem_iff.mp hz) with rfl | hz
      · omega
      · exact h1 z hz
theorem srtI_srt : ∀ l : List Int, (srtI l).Pairwise (· ≤ ·)
  | [] => .nil
  | x :: r => insI_srt x (srtI_srt r)
theorem srt_uniq : ∀ {l m : List Int}, l.Pairwise (· ≤ ·) → m.Pairwise (· ≤ ·) → l.Perm m → l = m
  | [], m, _, _, p => by simpa using p.symm.eq_nil
  | x :: l, [], _, _, p => by simpa using p.eq_nil
  | x :: l, y :: m, hl, hm, p => by
    obtain ⟨h1, h2⟩ := List.pairwise_cons.mp hl
    obtain ⟨h3, h4⟩ := List.pairwise_cons.mp hm
    have e : x = y := by
      have a : x ∈ y :: m := p.mem_iff.mp List.mem_cons_self
      have b : y ∈ x :: l := p.mem_iff.mpr List.mem_cons_self
      have c : y ≤ x := by
        rcases List.mem_cons.mp a with e | e
        · omega
        · exact h3 x e
      have d : x ≤ y := by
        rcases List.mem_cons.mp b with e | e
        · omega
        · exact h1 y e
      omega
    subst e
    rw [srt_uniq h2 h4 p.cons_inv]
def keysI : List (L2.Key × D) → Option (List Int)
  | [] => some []
  | (.inl i, _) :: r => (keysI r).map (i :: ·)
  | _ :: _ => none
theorem keysI_ok {F : D → V → Prop} : ∀ {kvs : List (L2.Key × D)} {l : List (L2.Key × V)} {ks : List Int}, PKv F kvs l → keysI kvs = some ks → l.map (·.1) = ks.map Sum.inl
  | [], _, ks, .nil, e => by cases e; rfl
  | (.inl i, d) :: r, _, ks, .cons q t, e => by
    simp only [keysI, Option.map_eq_some_iff] at e
    obtain ⟨ks', e1, rfl⟩ := e
    simp only [List.map_cons, keysI_ok t e1, ← q.1]
  | (.inr _, d) :: r, _, ks, .cons q t, e => by simp [keysI] at e
theorem keysI_len : ∀ {kvs : List (L2.Key × D)} {ks : List Int}, keysI kvs = some ks → ks.length = kvs.length
  | [], ks, e => by cases e; rfl
  | (.inl i, d) :: r, ks, e => by
    simp only [keysI, Option.map_eq_some_iff] at e
    obtain ⟨ks', e1, rfl⟩ := e
    simp [keysI_len e1]
  | (.inr _, d) :: r, ks, e => by simp [keysI] at e
def fSortedF : List D → S → R D := fun ds s => match ds with
  | [d] => (match lstP d s with
    | some ps => (match allI ps with
      | some ns => .ok (.p (.list ((srtI ns).map .int))) s
      | none => .bad)
    | none => (match dictV d s with
      | some kvs => (match keysI kvs with
        | some ks => if ks.length < 64 then .ok (.p (.list ((srtI ks).map .int))) s else .bad
        | none => .bad)
      | none => .bad))
  | _ => .bad
theorem call_sortedX (hc : X.calm = true) : CallR X (.builtin "sorted") (fun xs H Q => (rSortedI X.K xs H Q) ∨ (∃ (a : Addr) (kvs : List (L2.Key × V)) (ks : List Int), xs = [.ref a] ∧ Rd H a (.dK kvs) ∧ kvs.map (·.1) = ks.map Sum.inl ∧ ks.length < 64 ∧ ∀ (ys : List Int) (p : Addr), ys.Perm ks → ys.Pairwise (· ≤ ·) → H p = none → Q (.ref p) (upd H p (.lst (ys.map V.int))))) := by
  intro pins s σ H xs us Q I rx h
  rcases h with h | h
  · exact cr_sortedI pins s σ H xs us Q I rx h
  · exact call_sortedDI hc pins s σ H xs us Q I rx h
theorem b_sortedF : LinkF (yx X) fSortedF (fun xs H Q => (rSortedI X.K xs H Q) ∨ (∃ (a : Addr) (kvs : List (L2.Key × V)) (ks : List Int), xs = [.ref a] ∧ Rd H a (.dK kvs) ∧ kvs.map (·.1) = ks.map Sum.inl ∧ ks.length < 64 ∧ ∀ (ys : List Int) (p : Addr), ys.Perm ks → ys.Pairwise (· ≤ ·) → H p = none → Q (.ref p) (upd H p (.lst (ys.map V.int))))) := fun WE c ds vs Q rr q h => by
  unfold fSortedF at h
  split at h
  · rename_i d
    obtain ⟨v, rfl, q1⟩ := rds1 q
    split at h
    · rename_i ps el
      split at h
      · rename_i ns ei
        obtain ⟨a, vs, rfl, h1, h2⟩ := lstP_ok rr q1 el
        have e2 := allI_ok h2 ei
        subst e2
        refine .inl ⟨a, ns, rfl, h1, fun ns' p hp hs np => ?_⟩
        have : ns' = srtI ns := srt_uniq hs (srtI_srt ns) (hp.trans (srtI_perm ns).symm)
        subst this
        exact h.frz rr (rps_ints _) np
      · exact h.elim
    · split at h
      · rename_i kvs ek
        split at h
        · rename_i ks eks
          split at h
          · rename_i h64
            obtain ⟨a, l, rfl, h1, h2⟩ := dictV_ok rr q1 ek
            refine .inr ⟨a, l, ks, rfl, h1, keysI_ok h2 eks, h64, fun ns' p hp hs np => ?_⟩
            have : ns' = srtI ks := srt_uniq hs (srtI_srt ks) (hp.trans (srtI_perm ks).symm)
            subst this
            exact h.frz rr (rps_ints _) np
          · exact h.elim
        · exact h.elim
      · exact h.elim
  · exact h.elim
theorem bt_sorted : bootBuiltins "sorted" = some (.builtin "sorted") := by decide +kernel
theorem e_sortedF {p : Pos} {e : Expr} (hc : X.calm = true) (hg : Gl X "sorted") (hm : X.mg "sorted" = none) (ha : PA X (e :: es) (LA X W ms)) (hn : ("sorted" : Str) ≠ "__name__" := by decide) (hdb : (("sorted" : Str) == ("__debug__" : Str)) = false := by decide)
    (he : starEach (e :: es) X.env = (false, eval e X.env) :: starEach es X.env := by rfl) (hpl : (backTo pos (starEach es X.env)).any (·.1) = false := by rfl) : PE X (.Call (.Name "sorted" p) (e :: es) [] pos) (LE X W (mCall fSortedF ms)) :=
  ((pe_callB (call_sortedX hc) hg hm bt_sorted ha hn hdb he hpl).fz).imp fun σ H Q ⟨env, c, e, re, rr, h⟩ => ⟨env, c, e, re, rr, h.bind fun ds vs c1 s1 r1 q1 h1 => b_sortedF _ c1 ds vs Q r1 q1 h1⟩

/-! ### methods of lists -/
theorem Post.putD {Y : Md} {WE : Value → Option Addr → Hp → Prop} {c : Cf} {i : Nat} {a : Addr} {ds ds' : List D} {us vs : List V} {d : D} {v : V} {Q : VK} (h : Post Y (rd Y) WE c (.ok d { c.s with g := c.s.g.set i (some (.lst ds')) }) Q) (r : Rel Y c) (h0 : c.s.g[i]? = some (some (.lst ds))) (ha : c.m[i]? = some a)
    (hv : c.H a = some (.lst us)) (q : RDs Y c.m c.o c.H ds' vs) (qx : rd Y c d v) : Q v (upd c.H a (.lst vs)) := by
  have st : Stay c.H (upd c.H a (.lst vs)) := stay_poke fun w e => by rw [hv] at e; cases e; trivial
  refine h v (c.put i a (.lst vs) (some (.lst ds'))) rfl (Stp.put h0 ha) (r.put h0 ha (fun y e => ?_) st) (RD.up (fun _ _ z => z) (fun _ _ z => z) st qx)
  cases e
  exact ⟨vs, upd_same, RDs.up (fun _ _ z => z) (fun _ _ z => z) st q⟩
theorem Paired.getx {α β : Type} {F : α → β → Prop} {l : List α} {m : List β} (p : Paired F l m) : ∀ {i : Nat} {x : α}, l[i]? = some x → ∃ y, m[i]? = some y ∧ F x y := by
  induction p with
  | nil => intro i x e; simp at e
  | cons q t ih =>
    intro i x e
    cases i with
    | zero => simp at e; subst e; exact ⟨_, rfl, q⟩
    | succ i => simp at e; exact ih e
theorem Paired.erase {α β : Type} {F : α → β → Prop} {l : List α} {m : List β} (p : Paired F l m) : ∀ i : Nat, Paired F (l.eraseIdx i) (m.eraseIdx i) := by
  induction p with
  | nil => intro i; simpa using Paired.nil
  | cons q t ih =>
    intro i
    cases i with
    | zero => simpa using t
    | succ i => simpa using Paired.cons q (ih i)
theorem Paired.dropLast {α β : Type} {F : α → β → Prop} {l : List α} {m : List β} (p : Paired F l m) : Paired F l.dropLast m.dropLast := by
  induction p with
  | nil => exact .nil
  | cons q t ih =>
    cases t with
    | nil => exact .nil
    | cons q' t' => exact .cons q ih
def fPop : D → List D → S → R D := fun d ds s => match d, ds with
  | .ref i, [] => (match s.g[i]? with
    | some (some (.lst xs)) => (match xs[xs.length - 1]? with
      | some y => .ok y { s with g := s.g.set i (some (.lst xs.dropLast)) }
      | none => .bad)
    | _ => .bad)
  | .ref i, [.p (.int k)] => (match s.g[i]? with
    | some (some (.lst xs)) => if -(2 ^ 63) ≤ k ∧ k < 2 ^ 63 then (match seqIndex? k xs.length with
      | some n => (match xs[n]? with
        | some y => .ok y { s with g := s.g.set i (some (.lst (xs.eraseIdx n))) }
        | none => .bad)
      | none => .bad) else .bad
    | _ => .bad)
  | _, _ => .bad
theorem mt_popX : MtR X "list.pop" (fun x vs H Q => rPop x vs H Q ∨ rPopAt x vs H Q) := by
  intro pins s σ H x vs v us Q I rx rv h
  rcases h with h | h
  · exact mt_pop pins s σ H x vs v us Q I rx rv h
  · exact mt_popAt pins s σ H x vs v us Q I rx rv h
theorem m_pop : MethX X "list.pop" fPop := ⟨_, mt_popX, fun WE c d ds v vs Q rr q1 q2 h => by
  unfold fPop at h
  split at h
  · rename_i i
    split at h
    · rename_i xs ex
      split at h
      · rename_i y ey
        obtain ⟨a, ea, us, ev, qs⟩ := rr.g i _ ex
        obtain ⟨a', ea', rfl⟩ := q1
        rw [ea] at ea'; cases ea'
        cases q2
        have l := Paired.length qs
        obtain ⟨w, ew, qw⟩ := Paired.getx qs ey
        exact .inl ⟨a, us, w, rfl, rfl, ev, by rw [← l]; exact ew, h.putD rr ex ea ev (Paired.dropLast qs) qw⟩
      · exact h.elim
    · exact h.elim
  · rename_i i k
    split at h
    · rename_i xs ex
      split at h
      · rename_i hk
        split at h
        · rename_i n en
          split at h
          · rename_i y ey
            obtain ⟨a, ea, us, ev, qs⟩ := rr.g i _ ex
            obtain ⟨a', ea', rfl⟩ := q1
            rw [ea] at ea'; cases ea'
            obtain ⟨u, rfl, qu⟩ := rds1 q2
            have l := Paired.length qs
            obtain ⟨w, ew, qw⟩ := Paired.getx qs ey
            exact .inr ⟨a, us, k, n, w, rfl, by rw [rd_int (Y := yx X) (c := c) qu], ev, hk.1, hk.2, by rw [← l]; exact en, ew, h.putD rr ex ea ev (Paired.erase qs n) qw⟩
          · exact h.elim
        · exact h.elim
      · exact h.elim
    · exact h.elim
  · exact h.elim⟩
section
variable {o e : Expr} {mo : ME} {name : Str} {apos cpos : Pos} {T id : String} {f : D → List D → S → R D}
theorem e_methZ (pa : PlainAttrs T) (slot : Slot T name id) (hty : typeOf (.builtin id) = pure (.type "method_descriptor")) (hm : MethX X id f) (ho : PE X o (LE X W mo))
    (hbase : attributeBase o name X.env (eval o X.env) = eval o X.env := by rfl) (hline : (apos.endLine == cpos.line) = true := by rfl) : PE X (.Call (.Attribute o name apos) [] [] cpos) (LE X W (mMeth T f mo mNil)) := by
  obtain ⟨r, hr, hl⟩ := hm
  refine (pe_bm0 pa slot hty hr ho hbase hline).imp fun σ H Q ⟨env, c, e, re, rr, h⟩ => ⟨env, c, e, re, rr, h.bind fun d v c1 s1 r1 q1 h1 => ?_⟩
  split at h1
  · rename_i ht
    exact ⟨isTy_ok r1 q1 ht, hl _ c1 d [] v [] Q r1 q1 .nil h1⟩
  · exact h1.elim
theorem e_pop0 (ho : PE X o (LE X W mo)) (hbase : attributeBase o "pop" X.env (eval o X.env) = eval o X.env := by rfl) (hline : (apos.endLine == cpos.line) = true := by rfl) : PE X (.Call (.Attribute o "pop" apos) [] [] cpos) (LE X W (mMeth "list" fPop mo mNil)) :=
  e_methZ PySem.F.plainAttrs_list PySem.F.slot_list_pop PySem.F.type_list_pop m_pop ho hbase hline
theorem e_pop1 (ho : PE X o (LE X W mo)) (ha : PA X [e] (LA X W ms)) (hbase : attributeBase o "pop" X.env (eval o X.env) = eval o X.env := by rfl)
    (hfew : ((backTo cpos (starEach [e] X.env)).all (fun x => !x.1) && (backToKw cpos (keywordEach [] X.env)).all (fun x => x.1.isSome) && decide ([e].length + ([] : List Keyword).length + (if ([] : List Keyword).isEmpty then 0 else 1) < 30)) = true := by rfl)
    (hline : (apos.endLine == cpos.line) = true := by rfl) (hs : starEach [e] X.env = (false, eval e X.env) :: starEach [] X.env := by rfl) : PE X (.Call (.Attribute o "pop" apos) [e] [] cpos) (LE X W (mMeth "list" fPop mo ms)) :=
  e_meth PySem.F.plainAttrs_list PySem.F.slot_list_pop PySem.F.type_list_pop m_pop ho ha hbase hfew hline hs
/-- xs.index(x) -/
def fIndex : D → List D → S → R D := fun d ds s => match ds with
  | [.p x] => (match lstP d s with
    | some ps => if SeqAt.shaped x && SeqAt.shaped (.list ps) then (match ps.findIdx? fun z => PyData.eqv z x with
      | some j => .ok (.p (.int (j : Nat))) s
      | none => .bad) else .bad
    | none => .bad)
  | _ => .bad
theorem m_index (hu : X.A.units + 65 < cLine) : MethX X "list.index" fIndex := ⟨_, mt_indexD hu, fun WE c d ds v vs Q rr q1 q2 h => by
  unfold fIndex at h
  split at h
  · rename_i x
    obtain ⟨u, rfl, qu⟩ := rds1 q2
    split at h
    · rename_i ps el
      split at h
      · rename_i hz
        simp only [Bool.and_eq_true] at hz
        split at h
        · rename_i j ej
          obtain ⟨a, vs, rfl, h1, h2⟩ := lstP_ok rr q1 el
          obtain ⟨hj, hj1, hj2⟩ := List.findIdx?_eq_some_iff_getElem.mp ej
          refine ⟨a, u, x, ps, j, ps[j], rfl, rfl, rd_dp rr q1 el (shaped_can hz.2), RP.dp (shaped_can hz.1) qu, hz.2, hz.1, List.getElem?_eq_getElem hj, hj1, fun m z' hm ez => ?_, h.p rr mk_int⟩
          have hm' : m < ps.length := by omega
          rw [List.getElem?_eq_getElem hm'] at ez
          cases ez
          simpa using hj2 m hm
        · exact h.elim
      · exact h.elim
    · exact h.elim
  · exact h.elim⟩
theorem e_index (hu : X.A.units + 65 < cLine) (ho : PE X o (LE X W mo)) (ha : PA X [e] (LA X W ms)) (hbase : attributeBase o "index" X.env (eval o X.env) = eval o X.env := by rfl)
    (hfew : ((backTo cpos (starEach [e] X.env)).all (fun x => !x.1) && (backToKw cpos (keywordEach [] X.env)).all (fun x => x.1.isSome) && decide ([e].length + ([] : List Keyword).length + (if ([] : List Keyword).isEmpty then 0 else 1) < 30)) = true := by rfl)
    (hline : (apos.endLine == cpos.line) = true := by rfl) (hs : starEach [e] X.env = (false, eval e X.env) :: starEach [] X.env := by rfl) : PE X (.Call (.Attribute o "index" apos) [e] [] cpos) (LE X W (mMeth "list" fIndex mo ms)) :=
  e_meth PySem.F.plainAttrs_list PySem.F.slot_list_index PySem.F.type_list_index (m_index hu) ho ha hbase hfew hline hs
end
/-! ### lists put together, at once for good -/
def dCatF : D → D → S → R D := fun d1 d2 s => match lstP d1 s, lstP d2 s with
  | some ps, some qs => if sizeOk (ps.length + qs.length) then .ok (.p (.list (ps ++ qs))) s else .bad
  | _, _ => .bad
theorem e_catF (ha : PE X a (LE X W ma)) (hb : PE X b (LE X W mb)) : PE X (.BinOp a .Add b pos) (LE X W (mBin dCatF ma mb)) := by
  refine ((pe_op op_catF ha hb).fz).imp fun σ H Q ⟨env, c, e, re, r, h⟩ => ⟨env, c, e, re, r, h.bind fun d1 v1 c1 s1 r1 q1 h1 => ⟨env, c1, rfl, re.step r s1, r1, h1.bind fun d2 v2 c2 s2 r2 q2 h2 => ?_⟩⟩
  unfold dCatF at h2
  split at h2
  · rename_i ps qs e1 e2
    split at h2
    · rename_i hz
      obtain ⟨t1, us, rfl, k1, k2⟩ := lstP_ok r2 (q1.step r1 s2) e1
      obtain ⟨t2, ws, rfl, k3, k4⟩ := lstP_ok r2 q2 e2
      exact ⟨t1, t2, us, ws, rfl, rfl, k1, k3, by rw [← k2.length, ← k4.length]; exact of_decide_eq_true hz, fun p np => h2.frz r2 (k2.app k4) np⟩
    · exact h2.elim
  · exact h2.elim
end
end Mp

/-! MP, part P: enumerate of lists, of tuples. -/
namespace PySem
open AutoSeq1 (wpAny_loadPart')
abbrev mpTupIt (t : Addr) : Obj := { cls := .type "tuple_iterator", data := .fields #[.ref t, .int 0 0] }
abbrev mpEnumO (a : Addr) : Obj := { cls := .type "enumerate", data := .fields #[.none, .bool false, .ref a, rawInt 0, .none, .none] }
theorem mp_meets_enumT (t : Addr) (its : Array Value) (n : Nat) (dd : Option Addr) (sl : Array (Option Value)) :
    Meets (Builtin.«enumerate.__new__» ⟨[.type "enumerate", .ref t], []⟩) (fun _ R s => s.heap.get? t = some { cls := .type "tuple", dict := dd, data := .seq its n, slots := sl } ∧
      R (.ok (.ret (.ref (s.heap.push (mpTupIt t)).objs.size))) { s with heap := (s.heap.push (mpTupIt t)).push (mpEnumO s.heap.objs.size) }) :=
  .of_wp fun prog w A R s hyp => by
    obtain ⟨hp, gs, dx, tk, os⟩ := s
    obtain ⟨ht, hyp⟩ := hyp
    have hs1 := sub_enumerate
    have hT : Heap.IsTuple (Shared.heap ⟨hp, gs, dx, tk, os⟩) t its := ⟨_, ht, rfl, n, rfl⟩
    wp_walk using wpAny_loadPart' ht
    refine wpAny_stack_any fun stk => wpAny_pure ?_
    split
    · rename_i cc _ _ _ _ _
      cases (cc == Value.type "enumerate")
      · wp_walk using wpAny_loadPart' ht, wpAny_pyIter_tuple hT
        exact ⟨_, rfl, hyp⟩
      · wp_walk using wpAny_loadPart' ht, wpAny_pyIter_tuple hT
        exact ⟨_, rfl, hyp⟩
    · wp_walk using wpAny_loadPart' ht, wpAny_pyIter_tuple hT
      exact ⟨_, rfl, hyp⟩
section
variable {prog : Program} {w : World} {A : Around} {E : Value → Shared → Prop} {s : Shared}
theorem mp_call_enumT {t : Addr} {its : Array Value} {Q : Value → Shared → Prop} (hT : s.heap.IsTuple t its)
    (k : ∀ h', IsEnum h' (s.heap.objs.size + 1) s.heap.objs.size 0 .none → h'.IsTupleIter s.heap.objs.size t 0 → h'.objs.size = s.heap.objs.size + 2 → (∀ b o, s.heap.get? b = some o → h'.get? b = some o) → Q (.ref (s.heap.objs.size + 1)) { s with heap := h' }) :
    wpAny (model prog w) A (call (.type "enumerate") [.ref t]) Q E s := by
  obtain ⟨⟨cc, dd, da, sl⟩, ht, hc, n, hd⟩ := hT
  obtain rfl : cc = .type "tuple" := hc
  obtain rfl : da = .seq its n := hd
  refine callType_new F.called_enumerate (by decide) (F.typeCall_enumerate_1 _) (F.newCall_enumerate_1 _) (fun obj => F.args_object_init_2 obj _) F.entry_enumerate_new (mp_meets_enumT t its n dd sl) ⟨ht, ?_⟩
  have z1 : (s.heap.push (mpTupIt t)).objs.size = s.heap.objs.size + 1 := Heap.size_push ..
  have e1 : IsEnum ((s.heap.push (mpTupIt t)).push (mpEnumO s.heap.objs.size)) (s.heap.objs.size + 1) s.heap.objs.size 0 .none := by
    have z2 := Heap.get?_push_size (s.heap.push (mpTupIt t)) (o := mpEnumO s.heap.objs.size) rfl
    rw [z1] at z2
    exact z2
  rw [z1]
  exact ⟨⟨_, e1, rfl⟩, k _ e1 ⟨_, Heap.get?_push_of_some _ (Heap.get?_push_size _ rfl), rfl, rfl⟩ (by rw [Heap.size_push, z1]) fun b o q => Heap.get?_push_of_some _ (Heap.get?_push_of_some _ q)⟩
theorem mp_enumT_end {e it t : Addr} {i : Nat} {its : Array Value} {old : Value} {Q : Option Value → Shared → Prop} (h0 : A.handled = none) (he : IsEnum s.heap e it i old) (hi : s.heap.IsTupleIter it t i) (ht : s.heap.IsTuple t its) (hx : its[i]? = none)
    (k : ∀ h', Heap.ExtBut it s.heap h' → Q none { s with heap := h' }) : wpAny (model prog w) A (pyNext (.ref e)) Q E s := by
  have ty : s.TypeIs (.ref e) "enumerate" := ⟨_, he, rfl⟩
  unfold pyNext
  refine wpAny_bind (wpAny_attempt (wpAny_callSpecial?_slot (name := Str.ofString "__next__") ty F.slot_enumerate_next (wpAny_call_entry F.slot_enumerate_next ty F.entry_enumerate_next ?_ (F.args_enumerate_next_1 _))))
  show wpAny _ _ (field (.ref e) 2 >>= _) _ _ _
  refine wpAny_bind (wpAny_field he rfl (x := .ref it) rfl (wpAny_bind (wpAny_nextOf_tuple_end h0 hi ht hx fun h' x z1 z2 => ?_)))
  obtain ⟨o, y1, y2⟩ := z2
  exact wpAny_bind (wpAny_isInstance (T := "StopIteration") (b := true) ⟨o, y1, y2⟩ isSubtype_stop (wpAny_pure (k _ z1)))
end
end PySem
namespace Mp
open PySem PySem.Spec PyProof.Rows L2
/-- the tuple at a, each item in a new pair -/
def IteT (K : PySem.W.Frag) (a : Addr) : It :=
  ⟨fun i H => ∃ (xs : List V) (x : V), SqT K H a xs ∧ xs[i]? = some x, fun i H v H' => ∃ T x, v = .ref T ∧ H T = none ∧ H' = upd H T (.tup [.int (i : Nat), x]) ∧ ∀ xs, SqT K H a xs → xs[i]? = some x, fun i H => ∃ xs : List V, SqT K H a xs ∧ xs.length ≤ i⟩
theorem turn_enumT {P : Program} {w : World} {K : PySem.W.Frag} {elts : List Expr} {kk : Nat} {tpos : Pos} (a e it : Addr) :
    Turn P w K (.Tuple elts kk tpos) (IteT K a) [e, it] e (fun i h => (∃ old, IsEnum h e it ((i : Nat) : Int) old) ∧ h.IsTupleIter it a i ∧ e ≠ it ∧ a ≠ it ∧ a ≠ e) where
  mem := by simp
  obj := fun i h st b hb => by
    obtain ⟨⟨old, z1⟩, ⟨o, z2, _, z3⟩, _⟩ := st
    rcases (by simpa using hb : b = e ∨ b = it) with z | z
    · subst z; exact ⟨_, z1, fun v q => nomatch q⟩
    · subst z; exact ⟨o, z2, fun v q => by rw [z3] at q; cases q⟩
  keep := fun i h h' st k => let ⟨⟨old, z1⟩, z2, z3⟩ := st; ⟨⟨old, k e (by simp) _ z1⟩, z2.at fun o q => k it (by simp) o q, z3⟩
  item := by
    intro X hP hw hK hc i pins s σ H E I hf st hg
    subst hP hw hK
    obtain ⟨⟨old, he⟩, hit, hne, hai, hae⟩ := st
    obtain ⟨xs, x, hq, hx⟩ := hg
    obtain ⟨its, rv, p, hz⟩ := I.tuple hq
    have pt : s.heap.IsTuple a its.toArray := p
    obtain ⟨u, hu, ru⟩ := rv.get hx
    have ze : e < s.heap.objs.size := Heap.lt_size he
    have zi : it < s.heap.objs.size := by obtain ⟨_, q, _⟩ := hit; exact Heap.lt_size q
    have hlt : i < its.toArray.size := by simpa using (List.getElem?_eq_some_iff.mp hu).1
    refine wpAny_pyNext_enum_itemD (Draws.tuple (A := X.A.in1) (I.ok.hd hc) it a hai its.toArray) he ⟨hit, pt⟩ hlt hne (by simpa using ⟨hne, fun q => hae q.symm⟩) fun u' h' tk hP ho hst hT hsz hk => ?_
    have eu : u' = u := by
      have e1 : its.toArray[i]? = some u := by simpa using hu
      have e2 : its.toArray[i]? = some u' := hP
      rw [e1] at e2; cases e2; rfl
    subst eu
    refine ⟨_, rfl, wpAny_letOwnedTupleGo_enum (s := { s with heap := h', toks := tk + 1 }) ho fun h2 he' sb => ?_⟩
    have hT2 : h2.get? s.heap.objs.size = some { cls := .type "tuple", data := .seq #[.int i tk, u'] } := (sb.2 _ (Nat.ne_of_gt ze)).trans hT
    have ok2 : ObjOk X.prog X.w (upd H s.heap.objs.size (.tup [.int (i : Nat), x])) h2 s.heap.objs.size (.tup [.int (i : Nat), x]) :=
      ⟨by show 2 ≤ sizeLine; decide, [.int i tk, u'], .cons ⟨_, rfl⟩ (.cons ru .nil), ⟨_, hT2, rfl, _, rfl⟩⟩
    have I2 : Inv X pins σ (upd H s.heap.objs.size (.tup [.int (i : Nat), x])) { s with heap := h2, toks := tk + 1 } :=
      I.turnedNew (ch := [e, it]) (fun b ob hb q => (sb.2 b (fun z => hb (by simp [z]))).trans (hk b ob (fun z => hb (by simp [z])) (fun z => hb (by simp [z])) q)) hf (Nat.le_refl _) ok2
    refine ⟨.ref s.heap.objs.size, _, I2, rfl, ⟨_, x, rfl, I.hok.fresh (Nat.le_refl _), rfl, fun ys hy => by rw [I.tuple_inj hy hq]; exact hx⟩, ⟨⟨u', ?_⟩, hst.1.at fun o q => (sb.2 it (Ne.symm hne)).trans q, hne, hai, hae⟩, fun b hb => ?_⟩
    · rw [show ((i + 1 : Nat) : Int) = (i : Int) + 1 by omega]; exact he'
    · have zb : b < s.heap.objs.size := by
        rcases (by simpa using hb : b = e ∨ b = it) with z | z
        · rw [z]; exact ze
        · rw [z]; exact zi
      rw [upd_ne (Nat.ne_of_lt zb)]
      exact (hf b hb).1
  done := by
    intro X hP hw hK hc i pins s σ H E I hf st hg
    subst hP hw hK
    obtain ⟨⟨old, he⟩, hit, hne, hai, hae⟩ := st
    obtain ⟨xs, hq, hx⟩ := hg
    obtain ⟨its, rv, p, hz⟩ := I.tuple hq
    have pt : s.heap.IsTuple a its.toArray := p
    obtain ⟨f0, f1, f2, f3, f4, f5⟩ := hf it (by simp)
    have hl := rv.length
    exact mp_enumT_end (I.ok.hd hc) he hit pt (by simp; omega) fun h' eb => ⟨rfl, I.turned (t' := s.toks) (fun b o hb q => eb b o hb q) f0 f1 f3 f4 f5⟩
  self := fun A i s Q E st h => let ⟨⟨_, he⟩, _⟩ := st; wpAny_pyIter_enum he h
/-- enumerate: items with their places, all pure -/
def enumItems (ps : List PyData) : List D := ps.mapIdx fun i p => .p (.tuple [.int (i : Nat), p])
def srcEnum (d : D) (s : S) : R Src := match d with
  | .p (.tuple ps) => .ok (.fix (enumItems ps)) s
  | .p (.list ps) => .ok (.fix (enumItems ps)) s
  | _ => .bad
def mEnum (ma : ME) : MI := fun env s => (ma env s).bind srcEnum
theorem enum_get {ps : List PyData} {i : Nat} {x : D} (h : (enumItems ps)[i]? = some x) : ∃ p, ps[i]? = some p ∧ x = .p (.tuple [.int (i : Nat), p]) := by
  unfold enumItems at h
  rw [List.getElem?_mapIdx, Option.map_eq_some_iff] at h
  obtain ⟨p, h1, h2⟩ := h
  exact ⟨p, h1, h2.symm⟩
theorem enum_len {ps : List PyData} : (enumItems ps).length = ps.length := by simp [enumItems]
theorem RPs.nth {K : PySem.W.Frag} {H : Hp} : ∀ {ps : List PyData} {vs : List V} {i : Nat} {p : PyData} {v : V}, RPs K H ps vs → ps[i]? = some p → vs[i]? = some v → RP K H p v := fun {ps vs i p v} h e e' => by
  obtain ⟨u, e1, q⟩ := RPs.get h e
  rw [e'] at e1; cases e1
  exact q
/-- a new pair of an int and what stands -/
theorem rel_pair {Y : Md} {c : Cf} (r : Rel Y c) {T : Addr} {i : Nat} {p : PyData} {v : V} (q : RP Y.K c.H p v) (n : c.H T = none) : ∃ c', c'.H = upd c.H T (.tup [.int (i : Nat), v]) ∧ c'.s = c.s ∧ Stp c c' ∧ Rel Y c' ∧ rd Y c' (.p (.tuple [.int (i : Nat), p])) (.ref T) := by
  refine ⟨c.at T (.tup [.int (i : Nat), v]), rfl, rfl, Stp.at n, r.at n, ?_⟩
  show RP Y.K (upd c.H T (.tup [.int (i : Nat), v])) (.tuple [.int (i : Nat), p]) (.ref T)
  simp only [RP]
  refine ⟨T, _, rfl, SqT.of upd_same, ?_⟩
  simp only [RPs]
  exact ⟨_, _, rfl, by simp [RP], _, _, rfl, RP.stay (stay_of (upd_stay n)) q, rfl⟩
theorem rsrc_enumT {Y : Md} {c0 : Cf} (r0 : Rel Y c0) {t : Addr} {vs : List V} {ps : List PyData} (h : SqT Y.K c0.H t vs) (q : RPs Y.K c0.H ps vs) : RSrc Y c0 (.fix (enumItems ps)) (IteT Y.K t) where
  stop := fun c st r _ => ⟨vs, (st.stay r0).sqT h, by show vs.length ≤ (enumItems ps).length; rw [enum_len, q.length]; exact Nat.le_refl _⟩
  go := fun c i st r _ hi => by
    have hi' : i < vs.length := by
      have : i < (enumItems ps).length := hi
      rw [enum_len, q.length] at this
      exact this
    exact ⟨vs, vs[i], (st.stay r0).sqT h, by simp [hi']⟩
  yld := fun c i x v H' st r _ hx y => by
    obtain ⟨T, x', rfl, n, rfl, y2⟩ := y
    obtain ⟨p, ep, rfl⟩ := enum_get hx
    exact rel_pair r (RP.stay (st.stay r0) (q.nth ep (y2 vs ((st.stay r0).sqT h)))) n
theorem rsrc_enumL {Y : Md} {c0 : Cf} (r0 : Rel Y c0) {t : Addr} {vs : List V} {ps : List PyData} (h : FzL Y.K c0.H t vs) (q : RPs Y.K c0.H ps vs) : RSrc Y c0 (.fix (enumItems ps)) (Ite Y.K t) where
  stop := fun c st r _ => ⟨vs, ((st.stay r0).fzL h).sq, by show vs.length ≤ (enumItems ps).length; rw [enum_len, q.length]; exact Nat.le_refl _⟩
  go := fun c i st r _ hi => by
    have hi' : i < vs.length := by
      have : i < (enumItems ps).length := hi
      rw [enum_len, q.length] at this
      exact this
    exact ⟨vs, vs[i], ((st.stay r0).fzL h).sq, by simp [hi']⟩
  yld := fun c i x v H' st r _ hx y => by
    obtain ⟨T, x', rfl, n, rfl, y2⟩ := y
    obtain ⟨p, ep, rfl⟩ := enum_get hx
    exact rel_pair r (RP.stay (st.stay r0) (q.nth ep (y2 vs ((st.stay r0).fzL h).sq))) n
section
variable {X : Cx} {W : WX} {pos : Pos} {a b : Expr} {ma mb : ME}
theorem hu1 {k : Nat} {A : Around} (r : Room k A) : A.units + 1 < cLine := by have := r.un; omega
theorem hu65 {k : Nat} {A : Around} (r : Room k A) : A.units + 65 < cLine := by have := r.un; omega
theorem i_enum {p tpos : Pos} {elts : List Expr} {kk : Nat} (hg : Gl X "enumerate") (hm : X.mg "enumerate" = none) (ha : PE X a (LE X W ma)) (hs : starEach [a] X.env = [(false, eval a X.env)] := by rfl) :
    PI X (.Tuple elts kk tpos) (.Call (.Name "enumerate" p) [a] [] pos) (LI X W (mEnum ma)) := by
  refine ⟨fun pins s σ H R I ⟨env, c, e, re, r, h⟩ => ?_⟩
  have ha' : PA X [a] (LA X W (mCons ma mNil)) := a_cons ha a_nil (by rw [hs]; rfl)
  refine Call_ (ld_blt I hg hm boot_enumerate (PyProof.Rows.callWith_type1 (thn (ha'.run pos pins s σ H (fun vs H1 => ∃ c1, c1.H = H1 ∧ Rel (yx X) c1 ∧ ∃ d v, vs = [v] ∧ rd (yx X) c1 d v ∧ Post (yx X) (RSrc (yx X)) (fun cv dx H' => W cv dx σ H') c1 (srcEnum d c1.s) R) I ?_) fun us s1 ⟨vs, H1, I1, r1, q1⟩ => ?_) hs rfl))
  · refine ⟨env, c, e, re, r, ?_⟩
    unfold mCons mNil
    have h' : Post (yx X) (RSrc (yx X)) (fun cv dx H' => W cv dx σ H') c ((ma env c.s).bind srcEnum) R := h
    cases hd : ma env c.s with
    | ok d s1 =>
      rw [hd] at h'
      intro b c2 e2 s2 r2 q2
      cases q2 with
      | cons q qn =>
        cases qn
        exact ⟨c2, rfl, r2, d, _, rfl, q, by rw [e2]; exact h'.step s2⟩
    | ex x fs s1 =>
      rw [hd] at h'
      exact h'
    | bad => rw [hd] at h'; exact h'.elim
  · obtain ⟨c1, e1, rc, d, v, rfl, qd, hp⟩ := q1
    subst e1
    cases r1 with
    | cons rv rn =>
      cases rn
      unfold srcEnum at hp
      split at hp
      · rename_i ps
        obtain ⟨t, vs, rfl, k1, k2⟩ := rd_tup qd
        cases rv
        obtain ⟨its, rv', p', _⟩ := I1.tuple k1
        refine mp_call_enumT (show s1.heap.IsTuple t its.toArray from p') fun h' he hit hsz hk => wpAny_pyIter_enum he ?_
        have I2 : Inv X pins σ c1.H { s1 with heap := h' } := I1.kept (t' := s1.toks) hk
        have ht : t < s1.heap.objs.size := by obtain ⟨o, ho, _⟩ := p'; exact Heap.lt_size ho
        refine ⟨s1.heap.objs.size + 1, [s1.heap.objs.size + 1, s1.heap.objs.size], _, _, c1.H, rfl, I2, turn_enumT t (s1.heap.objs.size + 1) s1.heap.objs.size, ⟨⟨.none, he⟩, hit, Nat.succ_ne_self _, Nat.ne_of_lt ht, Nat.ne_of_lt (Nat.lt_succ_of_lt ht)⟩, fun b hb => ?_, ?_⟩
        · have hle : s1.heap.objs.size ≤ b := by
            rcases (by simpa using hb : b = s1.heap.objs.size + 1 ∨ b = s1.heap.objs.size) with z | z
            · rw [z]; exact Nat.le_add_right _ _
            · rw [z]; exact Nat.le_refl _
          exact I1.fpOk hle (I1.hok.fresh hle)
        · exact Post.here (RA := RSrc (yx X)) hp rc (rsrc_enumT rc k1 k2)
      · rename_i ps
        obtain ⟨t, vs, rfl, k1, k2⟩ := rd_lst qd
        cases rv
        obtain ⟨its, rv', p', _⟩ := I1.list k1.sq
        refine call_enumerate_list p'.isList fun h' he hit hsz hk => wpAny_pyIter_enum he ?_
        have I2 : Inv X pins σ c1.H { s1 with heap := h' } := I1.kept (t' := s1.toks) hk
        refine ⟨s1.heap.objs.size + 1, [s1.heap.objs.size + 1, s1.heap.objs.size], _, _, c1.H, rfl, I2, turn_enum t (s1.heap.objs.size + 1) s1.heap.objs.size, ⟨⟨.none, he⟩, hit, Nat.succ_ne_self _⟩, fun b hb => ?_, ?_⟩
        · have hle : s1.heap.objs.size ≤ b := by
            rcases (by simpa using hb : b = s1.heap.objs.size + 1 ∨ b = s1.heap.objs.size) with z | z
            · rw [z]; exact Nat.le_add_right _ _
            · rw [z]; exact Nat.le_refl _
          exact I1.fpOk hle (I1.hok.fresh hle)
        · exact Post.here (RA := RSrc (yx X)) hp rc (rsrc_enumL rc k1 k2)
      · exact hp.elim
end
end Mp

/-! MP, part O: repr of pure data. -/
namespace Mp
open PySem PySem.Spec PyProof.Rows L2
section
variable {X : Cx} {s : Shared} {H : Hp} {pins : List (Addr × Obj)} {σ : L2.St}

theorem pairs_keys {P : Program} {w : World} {h : Heap} : ∀ {es : List DictEntry} {kvs : List (L2.Key × Value)}, Pairs (mixKind P w) es kvs → ∃ as, ReadsAll h (es.map (·.key)) (kvs.map fun p => keyD p.1) as
  | [], _, h => by cases h; exact ⟨_, .nil⟩
  | e :: es, _, h => by
    cases h with
    | cons hk hv ht =>
      obtain ⟨as, r⟩ := pairs_keys ht
      rcases keyIs_shape hk with ⟨i, t, e1, e2⟩ | ⟨x, t, e1, e2⟩
      · refine ⟨[] ++ as, ?_⟩
        simp only [List.map_cons, e1, e2, keyD]
        exact .cons (.int i t) r
      · refine ⟨[] ++ as, ?_⟩
        simp only [List.map_cons, e1, e2, keyD]
        exact .cons (.str x t) r
theorem pairs_vals {P : Program} {w : World} : ∀ {es : List DictEntry} {kvs : List (L2.Key × Value)}, Pairs (mixKind P w) es kvs → es.map (·.val) = kvs.map (·.2)
  | [], _, h => by cases h; rfl
  | e :: es, _, h => by
    cases h with
    | cons hk hv ht => simp [pairs_vals ht, hv]
theorem kv_vals : ∀ {l : List (L2.Key × V)} {vs : List (L2.Key × Value)}, KV l vs → Vals (l.map (·.2)) (vs.map (·.2)) ∧ l.map (·.1) = vs.map (·.1)
  | _, _, .nil => ⟨.nil, rfl⟩
  | _, _, .cons q t => ⟨.cons q.2 (kv_vals t).1, by simp [(kv_vals t).2, q.1]⟩
theorem rpd_split {K : PySem.W.Frag} : ∀ {kvs : List (PyData × PyData)} {l : List (L2.Key × V)}, RPd K H kvs (l.map fun p => (keyD p.1, p.2)) → kvs.map (·.1) = l.map (fun p => keyD p.1) ∧ RPs K H (kvs.map (·.2)) (l.map (·.2))
  | [], l, h => by
    simp only [RPd] at h
    cases l with
    | nil => exact ⟨rfl, by simp [RPs]⟩
    | cons a b => simp at h
  | (k, x) :: r, l, h => by
    simp only [RPd] at h
    obtain ⟨v, rr, e1, h1, h2⟩ := h
    cases l with
    | nil => simp at e1
    | cons a b =>
      simp only [List.map_cons, List.cons.injEq, Prod.mk.injEq] at e1
      obtain ⟨⟨e2, e3⟩, e4⟩ := e1
      subst e4
      obtain ⟨z1, z2⟩ := rpd_split h2
      refine ⟨by simp [e2, z1], ?_⟩
      simp only [List.map_cons, RPs]
      exact ⟨_, _, rfl, by rw [e3]; exact h1, z2⟩
mutual
theorem RP.reprK (I : Inv X pins σ H s) : ∀ (x : PyData) (v : V) (u : Value), RP X.K H x v → RelV v u → x.showable = true → x.shown.length ≤ sizeLine →
    ∃ as bs, Reads s.heap u x as ∧ ReadAtMost s.heap x.depth bs ∧ ReprK X.prog X.w bs s.heap x.depth u x.shown
  | .none, v, u, h, r, _, _ => by
    rw [rp_none h] at r
    obtain rfl : u = .none := r
    exact ⟨_, [], .none, (fun _ h => nomatch h), by simp only [PyData.shown]; exact .of_is ReprIs.none _ _ _⟩
  | .bool b, v, u, h, r, _, _ => by
    rw [rp_bool h] at r
    obtain rfl : u = .bool b := r
    exact ⟨_, [], .bool b, (fun _ h => nomatch h), by simp only [PyData.shown]; exact .of_is (ReprIs.bool b) _ _ _⟩
  | .int i, v, u, h, r, hs, _ => by
    rw [rp_int h] at r
    obtain ⟨t, rfl⟩ := r
    exact ⟨_, [], .int i t, (fun _ h => nomatch h), by simp only [PyData.shown]; exact .of_is (ReprIs.int t (by simpa [PyData.showable] using hs)) _ _ _⟩
  | .str x, v, u, h, r, _, hz => by
    rw [rp_str h] at r
    obtain ⟨t, rfl⟩ := r
    exact ⟨_, [], .str x t, (fun _ h => nomatch h), by simp only [PyData.shown]; exact .of_is (ReprIs.str x t (by simpa only [PyData.shown] using hz)) _ _ _⟩
  | .list xs, v, u, h, r, hs, hz => by
    obtain ⟨a, vs, rfl, h1, h2⟩ := rp_lst h
    obtain rfl : u = .ref a := r
    have zt : (listText (PyData.shownAll xs)).length ≤ sizeLine := by simp only [PyData.shown] at hz; exact hz
    obtain ⟨its, rv, ⟨o, n, ho, hc, _, hd⟩, _⟩ := I.list h1.sq
    obtain ⟨as, bs, h4, hb, hk⟩ := RPs.reprK I xs vs its h2 rv (by simpa [PyData.showable] using hs) (fun t ht => Nat.le_trans (listText_mem_le ht) zt)
    have hr : Reads s.heap (.ref a) (.list xs) _ := .list ho hc hd (by simpa using h4)
    have nIn : a ∉ bs := not_mem_of_deeper hr (by simp only [PyData.depth]; omega) hb
    refine ⟨_, a :: bs, hr, ReadAtMost.cons hr (by simp only [PyData.depth]; omega) hb, ?_⟩
    simp only [PyData.depth, PyData.shown]
    cases its with
    | nil =>
      cases h4
      simp only [PyData.shownAll, listText_nil]
      exact ReprK.listEmpty ho hc hd
    | cons x l => exact ReprK.list ho hc hd nIn (by simpa using hk.length_eq) (fun i y e => hk.item i y (by simpa using e))
  | .tuple xs, v, u, h, r, hs, hz => by
    obtain ⟨a, vs, rfl, h1, h2⟩ := rp_tup h
    obtain rfl : u = .ref a := r
    have zt : (tupleText (PyData.shownAll xs)).length ≤ sizeLine := by simp only [PyData.shown] at hz; exact hz
    obtain ⟨its, rv, ⟨o, ho, hc, n, hd⟩, _⟩ := I.tuple h1
    obtain ⟨as, bs, h4, hb, hk⟩ := RPs.reprK I xs vs its h2 rv (by simpa [PyData.showable] using hs) (fun t ht => Nat.le_trans (tupleText_mem_le ht) zt)
    have hr : Reads s.heap (.ref a) (.tuple xs) _ := .tuple ho hc hd (by simpa using h4)
    have nIn : a ∉ bs := not_mem_of_deeper hr (by simp only [PyData.depth]; omega) hb
    refine ⟨_, a :: bs, hr, ReadAtMost.cons hr (by simp only [PyData.depth]; omega) hb, ?_⟩
    simp only [PyData.depth, PyData.shown]
    exact ReprK.tuple ho hc hd nIn (by simpa using hk)
  | .dict kvs, v, u, h, r, hs, hz => by
    simp only [RP] at h
    obtain ⟨a, _, rfl, ⟨o, l, h1, rfl⟩, h2⟩ := h
    obtain rfl : u = .ref a := r
    have zt : (dictText (PyData.shownKv kvs)).length ≤ sizeLine := by simp only [PyData.shown] at hz; exact hz
    obtain ⟨sk, sv⟩ := PyData.showableKv_split kvs (by simpa [PyData.showable] using hs)
    obtain ⟨_, hsys, vs, kv, ob, es, ep, ho, hx, hd, _, hp, _⟩ := dk_rd I.hok (.inr ⟨o, h1⟩)
    obtain ⟨k1, k2⟩ := kv_vals kv
    obtain ⟨z1, z2⟩ := rpd_split h2
    obtain ⟨as1, q1⟩ := pairs_keys (h := s.heap) hp
    have q1' : ReadsAll s.heap (es.toList.map (·.key)) (kvs.map (·.1)) as1 := by
      rw [z1]
      have : l.map (fun p => keyD p.1) = vs.map (fun p => keyD p.1) := by
        have := congrArg (List.map keyD) k2
        rw [List.map_map, List.map_map] at this
        exact this
      rw [this]
      exact q1
    have e2 : es.toList.map (·.val) = vs.map (·.2) := pairs_vals hp
    obtain ⟨as2, b2, q2, ra2, kk2⟩ := RPv.reprK I kvs (l.map (·.2)) (es.toList.map (·.val)) z2 (by rw [e2]; exact k1) sv (fun t ht => let ⟨p, hp, hl⟩ := PyData.shownKv_val_le kvs t ht; Nat.le_trans hl (Nat.le_trans (dictText_mem_le hp) zt))
    have flat : PyData.hasDictAll (kvs.map (·.1)) = false := by
      rw [z1]
      generalize l = l'
      induction l' with
      | nil => rfl
      | cons p l' ih =>
        simp only [List.map_cons, PyData.hasDictAll, ih, Bool.or_false]
        cases p.1 <;> rfl
    obtain ⟨b1, ra1, kk1⟩ := ReprAllK.of_readsAll (prog := X.prog) (w := X.w) q1' sk (fun hx => by rw [flat] at hx; cases hx) (fun t ht => let ⟨p, hp, hl⟩ := PyData.shownKv_key_le kvs t ht; Nat.le_trans hl (Nat.le_trans (dictText_mem_le hp) zt))
    have hr : Reads s.heap (.ref a) (.dict kvs) _ := .dict ho hx.1 hd q1' q2
    have hb : ReadAtMost s.heap (PyData.depthKv kvs) (b1 ++ b2) := (ra1.mono (PyData.depthAll_keys_le kvs)).append (ra2.mono (PyData.depthAll_vals_le kvs))
    have nIn : a ∉ b1 ++ b2 := not_mem_of_deeper hr (by simp only [PyData.depth]; omega) hb
    refine ⟨_, a :: (b1 ++ b2), hr, ReadAtMost.cons hr (by simp only [PyData.depth]; omega) hb, ?_⟩
    simp only [PyData.depth, PyData.shown, PyData.shownKv_eq]
    exact ReprK.dict ho hx.1 hd hsys nIn (ReprEntriesK.of_two es.toList _ _
      (kk1.more_le (fun b hb => List.mem_append_left _ hb) (PyData.depthAll_keys_le kvs)) (kk2.more_le (fun b hb => List.mem_append_right _ hb) (PyData.depthAll_vals_le kvs)))
theorem RPs.reprK (I : Inv X pins σ H s) : ∀ (xs : List PyData) (vs : List V) (us : List Value), RPs X.K H xs vs → Vals vs us → PyData.showableAll xs = true → (∀ t ∈ PyData.shownAll xs, t.length ≤ sizeLine) →
    ∃ as bs, ReadsAll s.heap us xs as ∧ ReadAtMost s.heap (PyData.depthAll xs) bs ∧ ReprAllK X.prog X.w bs s.heap (PyData.depthAll xs) us (PyData.shownAll xs)
  | [], vs, us, h, r, _, _ => by
    simp only [RPs] at h
    subst h
    cases r
    exact ⟨_, [], .nil, (fun _ h => nomatch h), by simp only [PyData.shownAll]; exact .nil⟩
  | x :: xs, vs, us, h, r, hs, hz => by
    simp only [RPs] at h
    obtain ⟨v, rv, rfl, h1, h2⟩ := h
    cases r with
    | cons r1 r2 =>
      have hs' : x.showable = true ∧ PyData.showableAll xs = true := by simpa [PyData.showableAll] using hs
      obtain ⟨a1, b1, p1, ra1, k1⟩ := RP.reprK I x v _ h1 r1 hs'.1 (hz _ (by simp only [PyData.shownAll]; exact List.mem_cons_self ..))
      obtain ⟨a2, b2, p2, ra2, k2⟩ := RPs.reprK I xs rv _ h2 r2 hs'.2 (fun t ht => hz t (by simp only [PyData.shownAll]; exact List.mem_cons_of_mem _ ht))
      refine ⟨_, b1 ++ b2, .cons p1 p2, ?_, ?_⟩
      · intro b hm
        simp only [PyData.depthAll]
        rcases List.mem_append.mp hm with hl | hl
        · obtain ⟨dx, ax, rx, hx⟩ := ra1 b hl
          exact ⟨dx, ax, rx, Nat.le_trans hx (Nat.le_max_left _ _)⟩
        · obtain ⟨dx, ax, rx, hx⟩ := ra2 b hl
          exact ⟨dx, ax, rx, Nat.le_trans hx (Nat.le_max_right _ _)⟩
      · simp only [PyData.depthAll, PyData.shownAll]
        exact .cons ((k1.more fun b hb => List.mem_append_left _ hb).level_le (Nat.le_max_left _ _)) (k2.more_le (fun b hb => List.mem_append_right _ hb) (Nat.le_max_right _ _))
theorem RPv.reprK (I : Inv X pins σ H s) : ∀ (kvs : List (PyData × PyData)) (vs : List V) (us : List Value), RPs X.K H (kvs.map (·.2)) vs → Vals vs us → PyData.showableAll (kvs.map (·.2)) = true → (∀ t ∈ PyData.shownAll (kvs.map (·.2)), t.length ≤ sizeLine) →
    ∃ as bs, ReadsAll s.heap us (kvs.map (·.2)) as ∧ ReadAtMost s.heap (PyData.depthAll (kvs.map (·.2))) bs ∧ ReprAllK X.prog X.w bs s.heap (PyData.depthAll (kvs.map (·.2))) us (PyData.shownAll (kvs.map (·.2)))
  | [], vs, us, h, r, _, _ => by
    simp only [List.map_nil] at h ⊢
    simp only [RPs] at h
    subst h
    cases r
    exact ⟨_, [], .nil, (fun _ h => nomatch h), by simp only [PyData.shownAll]; exact .nil⟩
  | (key, x) :: xs, vs, us, h, r, hs, hz => by
    simp only [List.map_cons] at h hs hz ⊢
    simp only [RPs] at h
    obtain ⟨v, rv, rfl, h1, h2⟩ := h
    cases r with
    | cons r1 r2 =>
      have hs' : x.showable = true ∧ PyData.showableAll (xs.map (·.2)) = true := by simpa [PyData.showableAll] using hs
      obtain ⟨a1, b1, p1, ra1, k1⟩ := RP.reprK I x v _ h1 r1 hs'.1 (hz _ (by simp only [PyData.shownAll]; exact List.mem_cons_self ..))
      obtain ⟨a2, b2, p2, ra2, k2⟩ := RPv.reprK I xs rv _ h2 r2 hs'.2 (fun t ht => hz t (by simp only [PyData.shownAll]; exact List.mem_cons_of_mem _ ht))
      refine ⟨_, b1 ++ b2, .cons p1 p2, ?_, ?_⟩
      · intro b hm
        simp only [PyData.depthAll]
        rcases List.mem_append.mp hm with hl | hl
        · obtain ⟨dx, ax, rx, hx⟩ := ra1 b hl
          exact ⟨dx, ax, rx, Nat.le_trans hx (Nat.le_max_left _ _)⟩
        · obtain ⟨dx, ax, rx, hx⟩ := ra2 b hl
          exact ⟨dx, ax, rx, Nat.le_trans hx (Nat.le_max_right _ _)⟩
      · simp only [PyData.depthAll, PyData.shownAll]
        exact .cons ((k1.more fun b hb => List.mem_append_left _ hb).level_le (Nat.le_max_left _ _)) (k2.more_le (fun b hb => List.mem_append_right _ hb) (Nat.le_max_right _ _))
end
theorem dictKids (I : Inv X pins σ H s) {a : Addr} {o : Obj} {l : List (L2.Key × V)} {kvs : List (PyData × PyData)} (h1 : H a = some (.frz o (.dK l))) (h2 : RPd X.K H kvs (l.map fun p => (keyD p.1, p.2))) (hs : (PyData.dict kvs).showable = true) (hz : (PyData.dict kvs).shown.length ≤ sizeLine) :
    ∃ (ob : Obj) (es : Array DictEntry) (ep : Nat), (a == sysModules) = false ∧ s.heap.get? a = some ob ∧ ob.cls = .type "dict" ∧ ob.data = .dict es ep ∧ (∃ as, Reads s.heap (.ref a) (.dict kvs) as) ∧ ∃ bs, ReadAtMost s.heap (PyData.depthKv kvs) bs ∧ ReprEntriesK X.prog X.w bs s.heap (PyData.depthKv kvs) es.toList (PyData.shownKv kvs) := by
    have zt : (dictText (PyData.shownKv kvs)).length ≤ sizeLine := by simp only [PyData.shown] at hz; exact hz
    obtain ⟨sk, sv⟩ := PyData.showableKv_split kvs (by simpa [PyData.showable] using hs)
    obtain ⟨_, hsys, vs, kv, ob, es, ep, ho, hx, hd, _, hp, _⟩ := dk_rd I.hok (.inr ⟨o, h1⟩)
    obtain ⟨k1, k2⟩ := kv_vals kv
    obtain ⟨z1, z2⟩ := rpd_split h2
    obtain ⟨as1, q1⟩ := pairs_keys (h := s.heap) hp
    have q1' : ReadsAll s.heap (es.toList.map (·.key)) (kvs.map (·.1)) as1 := by
      rw [z1]
      have : l.map (fun p => keyD p.1) = vs.map (fun p => keyD p.1) := by
        have := congrArg (List.map keyD) k2
        rw [List.map_map, List.map_map] at this
        exact this
      rw [this]
      exact q1
    have e2 : es.toList.map (·.val) = vs.map (·.2) := pairs_vals hp
    obtain ⟨as2, b2, q2, ra2, kk2⟩ := RPv.reprK I kvs (l.map (·.2)) (es.toList.map (·.val)) z2 (by rw [e2]; exact k1) sv (fun t ht => let ⟨p, hp, hl⟩ := PyData.shownKv_val_le kvs t ht; Nat.le_trans hl (Nat.le_trans (dictText_mem_le hp) zt))
    have flat : PyData.hasDictAll (kvs.map (·.1)) = false := by
      rw [z1]
      generalize l = l'
      induction l' with
      | nil => rfl
      | cons p l' ih =>
        simp only [List.map_cons, PyData.hasDictAll, ih, Bool.or_false]
        cases p.1 <;> rfl
    obtain ⟨b1, ra1, kk1⟩ := ReprAllK.of_readsAll (prog := X.prog) (w := X.w) q1' sk (fun hx => by rw [flat] at hx; cases hx) (fun t ht => let ⟨p, hp, hl⟩ := PyData.shownKv_key_le kvs t ht; Nat.le_trans hl (Nat.le_trans (dictText_mem_le hp) zt))
    refine ⟨ob, es, ep, hsys, ho, hx.1, hd, ⟨_, .dict ho hx.1 hd q1' q2⟩, _, (ra1.mono (PyData.depthAll_keys_le kvs)).append (ra2.mono (PyData.depthAll_vals_le kvs)), ?_⟩
    rw [PyData.shownKv_eq]
    exact ReprEntriesK.of_two es.toList _ _ (kk1.more_le (fun b hb => List.mem_append_left _ hb) (PyData.depthAll_keys_le kvs)) (kk2.more_le (fun b hb => List.mem_append_right _ hb) (PyData.depthAll_vals_le kvs))
end
theorem repr_dictP {X : Cx} {pins : List (Addr × Obj)} {σ : L2.St} {H : Hp} {s : Shared} {a : Addr} {o : Obj} {l : List (L2.Key × V)} {kvs : List (PyData × PyData)} {Q : Value → Shared → Prop} {E : Value → Shared → Prop} (I : Inv X pins σ H s) (h1 : H a = some (.frz o (.dK l))) (h2 : RPd X.K H kvs (l.map fun p => (keyD p.1, p.2)))
    (hs : (PyData.dict kvs).showable = true) (hz : (PyData.dict kvs).shown.length ≤ sizeLine) (hg : X.A.guards = some []) (hu : X.A.units + PyData.depthKv kvs + 2 < cLine)
    (k : ∀ h' t tk, (∀ b o, s.heap.get? b = some o → h'.get? b = some o) → Q (.str (PyData.dict kvs).shown t) { s with heap := h', toks := tk }) : wpAny (model X.prog X.w) X.A (call (.builtin "repr") [.ref a]) Q E s := by
  have zt : (dictText (PyData.shownKv kvs)).length ≤ sizeLine := hz
  obtain ⟨ob, es, ep, hsys, ho, hx, hd, hr, bs, hb, hE⟩ := dictKids I h1 h2 hs hz
  have nIn : a ∉ bs := not_mem_of_deeper (d := .dict kvs) hr.choose_spec (by simp only [PyData.depth]; omega) hb
  refine call_repr_slot (by omega) ⟨ob, ho, hx⟩ F.slot_dict_repr ?_
  have e : (PyData.dict kvs).shown = dictText (PyData.shownKv kvs) := rfl
  rw [e] at k
  exact call_dict_reprK (g := []) ho hx hd hsys nIn hE hg (fun b _ => Clear.nil b) (by show X.A.units + 1 + _ < _; omega) (fun _ _ e => e) (fun h' t tk hk' => ⟨_, _, rfl, k h' t tk hk'⟩) zt
/-! ### repr -/
def reprOk (x : PyData) : Bool := x.showable && decide (x.depth ≤ 60) && decide (x.shown.length ≤ sizeLine)
def fRepr : List D → S → R D := fun ds s => match ds with
  | [.p x] => if reprOk x then .ok (.p (.str x.shown)) s else .bad
  | _ => .bad
def rRepr (X : Cx) : List V → Hp → VK → Prop := fun xs H Q => ∃ v x, xs = [v] ∧ RP X.K H x v ∧ reprOk x = true ∧ Q (.str x.shown) H
section
variable {X : Cx} {W : WX} {pos : Pos} {es : List Expr} {ms : MA}
theorem call_reprP (hg : X.A.guards = some []) (hu : X.A.units + 62 < cLine) : CallR X (.builtin "repr") (rRepr X) := by
  intro pins s σ H xs us Q I rx h
  obtain ⟨v, x, rfl, rp, ok, q⟩ := h
  simp only [reprOk, Bool.and_eq_true, decide_eq_true_eq] at ok
  obtain ⟨⟨hs, hdp⟩, hz⟩ := ok
  cases rx with
  | cons r rn =>
    rename_i u us'
    cases rn
    have done : ∀ h' t tk, (∀ b o, s.heap.get? b = some o → h'.get? b = some o) → EP X pins σ Q (.str x.shown t) { s with heap := h', toks := tk } := fun h' t tk hk => ⟨.str x.shown, H, I.kept (t' := tk) hk, ⟨_, rfl⟩, q⟩
    cases x with
    | none =>
      rw [rp_none rp] at r
      obtain rfl : u = .none := r
      exact PySem.P.repr_of_none (done s.heap _ _ fun _ _ e => e)
    | bool b =>
      rw [rp_bool rp] at r
      obtain rfl : u = .bool b := r
      exact PySem.P.repr_of_bool (done s.heap _ _ fun _ _ e => e)
    | int i =>
      rw [rp_int rp] at r
      obtain ⟨t, rfl⟩ := r
      exact PySem.P.repr_of_int (by simpa [PyData.showable] using hs) (done s.heap _ _ fun _ _ e => e)
    | str z =>
      rw [rp_str rp] at r
      obtain ⟨t, rfl⟩ := r
      exact PySem.P.repr_of_str (done s.heap _ _ fun _ _ e => e) hz
    | list xs =>
      obtain ⟨a, vs, rfl, h1, h2⟩ := rp_lst rp
      obtain rfl : u = .ref a := r
      obtain ⟨its, rv, ⟨o, n, ho, hc, _, hd⟩, _⟩ := I.list h1.sq
      have zt : (listText (PyData.shownAll xs)).length ≤ sizeLine := hz
      obtain ⟨as, bs, h4, hb, hk⟩ := RPs.reprK I xs vs its h2 rv (by simpa [PyData.showable] using hs) (fun t ht => Nat.le_trans (listText_mem_le ht) zt)
      have nIn : a ∉ bs := not_mem_of_deeper (d := .list xs) (.list ho hc hd (by simpa using h4)) (by simp only [PyData.depth]; omega) hb
      simp only [PyData.depth] at hdp
      refine call_repr_slot (by omega) ⟨o, ho, hc⟩ F.slot_list_repr.toG ?_
      cases its with
      | nil =>
        cases h4
        have e : (PyData.list []).shown = ("[]" : Str) := by simp only [PyData.shown, PyData.shownAll]; exact listText_nil
        rw [e] at done
        exact call_list_repr_empty ⟨o, ho, hc⟩ ho hd ⟨_, _, rfl, done s.heap _ _ fun _ _ e => e⟩
      | cons y l =>
        exact call_list_reprK (g := []) ho hc hd nIn (by simpa using hk.length_eq) (fun i y e => hk.item i y (by simpa using e)) hg (fun b _ => Clear.nil b) (by show X.A.units + 1 + _ < _; omega) (fun _ _ e => e) (fun h' t tk hk' => ⟨_, _, rfl, done h' t tk hk'⟩) zt
    | tuple xs =>
      obtain ⟨a, vs, rfl, h1, h2⟩ := rp_tup rp
      obtain rfl : u = .ref a := r
      obtain ⟨its, rv, ⟨o, ho, hc, n, hd⟩, _⟩ := I.tuple h1
      have zt : (tupleText (PyData.shownAll xs)).length ≤ sizeLine := hz
      obtain ⟨as, bs, h4, hb, hk⟩ := RPs.reprK I xs vs its h2 rv (by simpa [PyData.showable] using hs) (fun t ht => Nat.le_trans (tupleText_mem_le ht) zt)
      have nIn : a ∉ bs := not_mem_of_deeper (d := .tuple xs) (.tuple ho hc hd (by simpa using h4)) (by simp only [PyData.depth]; omega) hb
      simp only [PyData.depth] at hdp
      refine call_repr_slot (by omega) ⟨o, ho, hc⟩ F.slot_tuple_repr ?_
      exact call_tuple_reprK (g := []) ho hc hd nIn (by simpa using hk) hg (fun b _ => Clear.nil b) (by show X.A.units + 1 + _ < _; omega) (fun _ _ e => e) (fun h' t tk hk' => ⟨_, _, rfl, done h' t tk hk'⟩) zt
    | dict kvs =>
      obtain ⟨as, bs, hr, hb, hk⟩ := RP.reprK I _ _ _ rp r hs hz
      simp only [RP] at rp
      obtain ⟨a, _, rfl, ⟨o, l, h1, rfl⟩, h2⟩ := rp
      obtain rfl : u = .ref a := r
      simp only [PyData.depth] at hdp
      exact repr_dictP I h1 h2 hs hz hg (by omega) done
theorem bt_repr : bootBuiltins "repr" = some (.builtin "repr") := by decide +kernel
theorem b_repr (hg : X.A.guards = some []) {k : Nat} (hr : Room k X.A) : CallX X (.builtin "repr") fRepr := ⟨_, call_reprP hg (by have := hr.un; omega), fun WE c ds vs Q rr q h => by
  unfold fRepr at h
  split at h
  · rename_i x
    split at h
    · rename_i ok
      obtain ⟨v, rfl, q1⟩ := rds1 q
      exact ⟨v, x, rfl, q1, ok, h.p rr mk_str⟩
    · exact h.elim
  · exact h.elim⟩
end
end Mp

/-! MP, part Q: while loops, comprehensions by equation, trimmed machines. -/
namespace Mp
open PySem PySem.Spec PyProof.Rows L2

theorem while_gets {t : MT} {body : MS} {N : Env1 → S → Prop} {Q : D → S → Prop} {J : Nat → Env1 → S → Prop}
    (h : ∀ n e s, J n e s → Gets (t e s) fun b s1 => if b = true then RSt (body e s1) (fun e' s' => ∃ m, m < n ∧ J m e' s') N Q else N e s1) : ∀ n e s, J n e s → RSw (sWhile t body e s) N Q := by
  intro n
  induction n using Nat.strongRecOn with
  | ind n ih =>
    intro e s hj
    obtain ⟨b, s1, eb, hb⟩ := h n e s hj
    rw [sWhile_eq, eb]
    simp only [R.thn_ok]
    cases b with
    | false =>
      simp only [Bool.false_eq_true, if_false] at hb ⊢
      exact hb
    | true =>
      simp only [if_true] at hb ⊢
      revert hb
      cases body e s1 with
      | nx e2 s2 => exact fun ⟨m, hm, hj⟩ => ih m hm e2 s2 hj
      | cont e2 s2 => exact fun ⟨m, hm, hj⟩ => ih m hm e2 s2 hj
      | brk e2 s2 => exact fun q => q
      | ret d s2 => exact fun q => q
      | ex c fs e2 s2 => exact fun q => q.elim
      | bad => exact fun q => q.elim
theorem lc_gen {α : Type} {ok : S → Prop} {g : MG} {tt : MT} {me : ME} {env0 : Env1} {s : S} (ho : ok s) {a f : α → D} {p : α → Bool} {ev : α → Env1} : ∀ {xs : List α}, (∀ x ∈ xs, g (a x) env0 s = .ok (ev x) s) → (∀ x ∈ xs, tt (ev x) s = .ok (p x) s) → (∀ x ∈ xs, p x = true → me (ev x) s = .ok (f x) s) →
    lcL ok g tt me env0 (xs.map a) s = .ok ((xs.filter p).map f) s
  | [], _, _, _ => by
    simp only [List.map_nil, List.filter_nil]
    rw [lcL_e0]
    rw [if_pos ho]
  | x :: xs, hg, h, k => by
    simp only [List.map_cons]
    rw [lcL_e1]
    rw [if_pos ho]
    simp only [hg x List.mem_cons_self, noex, R.bind, h x List.mem_cons_self]
    have ih := lc_gen (tt := tt) (me := me) (f := f) (p := p) ho (fun y hy => hg y (List.mem_cons_of_mem _ hy)) (fun y hy => h y (List.mem_cons_of_mem _ hy)) fun y hy => k y (List.mem_cons_of_mem _ hy)
    cases hp : p x with
    | true =>
      simp only [if_true, k x List.mem_cons_self hp]
      rw [ih]
      simp [hp]
    | false =>
      simp only [Bool.false_eq_true, if_false]
      rw [ih]
      simp [hp]
theorem dc_gen {α : Type} {ok : S → Prop} {g : MG} {tt : MT} {mk mv : ME} {env0 : Env1} {k : List (L2.Key × D) → S → R D} {s : S} (ho : ok s) {a : α → D} {kp : α → PyData} {ke : α → L2.Key} {f : α → D} {p : α → Bool} {ev : α → Env1} (hk : ∀ x, keyOf (kp x) = some (ke x)) : ∀ {xs : List α} {acc : List (L2.Key × D)}, (∀ x ∈ xs, g (a x) env0 s = .ok (ev x) s) → (∀ x ∈ xs, tt (ev x) s = .ok (p x) s) →
    (∀ x ∈ xs, p x = true → mk (ev x) s = .ok (.p (kp x)) s) → (∀ x ∈ xs, p x = true → mv (ev x) s = .ok (f x) s) → (∀ x ∈ xs, p x = true → ke x ∉ acc.map (·.1)) → ((xs.filter p).map ke).Nodup →
    dcL ok g tt mk mv env0 k (xs.map a) acc s = k (acc ++ (xs.filter p).map fun x => (ke x, f x)) s
  | [], acc, _, _, _, _, _, _ => by
    simp only [List.map_nil, List.filter_nil, List.append_nil]
    rw [dcL_e0]
    rw [if_pos ho]
  | x :: xs, acc, hg, h, h1, h2, h3, nd => by
    simp only [List.map_cons]
    rw [dcL_e1]
    rw [if_pos ho]
    simp only [hg x List.mem_cons_self, noex, R.bind, h x List.mem_cons_self]
    cases hp : p x with
    | true =>
      simp only [if_true, h1 x List.mem_cons_self hp, h2 x List.mem_cons_self hp, hk]
      have hn := h3 x List.mem_cons_self hp
      have es : setK acc (ke x) (f x) = acc ++ [(ke x, f x)] := by
        unfold setK
        rw [if_neg]
        intro z
        obtain ⟨q, hq, e⟩ := List.any_eq_true.mp z
        exact hn (List.mem_map.mpr ⟨q, hq, by simpa using e⟩)
      rw [es]
      simp only [hp, List.filter_cons_of_pos, List.map_cons, List.nodup_cons] at nd ⊢
      rw [dc_gen ho hk (fun y hy => hg y (List.mem_cons_of_mem _ hy)) (fun y hy => h y (List.mem_cons_of_mem _ hy)) (fun y hy => h1 y (List.mem_cons_of_mem _ hy)) (fun y hy => h2 y (List.mem_cons_of_mem _ hy)) ?_ nd.2]
      · simp
      · intro y hy py hm
        rw [List.map_append, List.mem_append] at hm
        rcases hm with hm | hm
        · exact h3 y (List.mem_cons_of_mem _ hy) py hm
        · simp at hm
          exact nd.1 (List.mem_map.mpr ⟨y, List.mem_filter.mpr ⟨hy, py⟩, hm⟩)
    | false =>
      simp only [Bool.false_eq_true, if_false]
      have e : (x :: xs).filter p = xs.filter p := by simp [hp]
      rw [e] at nd ⊢
      exact dc_gen ho hk (fun y hy => hg y (List.mem_cons_of_mem _ hy)) (fun y hy => h y (List.mem_cons_of_mem _ hy)) (fun y hy => h1 y (List.mem_cons_of_mem _ hy)) (fun y hy => h2 y (List.mem_cons_of_mem _ hy)) (fun y hy => h3 y (List.mem_cons_of_mem _ hy)) nd

/-! ### reachable, live -/
def Mac.nx (m : Mac) (q : Nat) : List Nat := (m.row q).ss.filterMap fun s => s.map (·.2)
inductive Mac.Rch (m : Mac) : Nat → Nat → Prop
  | refl (q : Nat) : Mac.Rch m q q
  | step {q p r : Nat} : Mac.Rch m q p → r ∈ m.nx p → Mac.Rch m q r
theorem Mac.Rch.trans {m : Mac} {a b c : Nat} (h : m.Rch a b) (k : m.Rch b c) : m.Rch a c := by
  induction k with
  | refl => exact h
  | step _ e ih => exact ih.step e
def Mac.Coe (m : Mac) (q : Nat) : Prop := ∃ r, m.Rch q r ∧ (m.row r).fin ≠ none
theorem Mac.nx_lt {m : Mac} (h : m.Ok) {q r : Nat} (hq : q < m.rs.length) (hr : r ∈ m.nx q) : r < m.rs.length := by
  unfold Mac.nx at hr
  obtain ⟨s, hs, e⟩ := List.mem_filterMap.mp hr
  obtain ⟨p, rfl, rfl⟩ := Option.map_eq_some_iff.mp e
  exact ((h.row hq).ss _ hs p rfl).2
theorem Mac.nx_st {m : Mac} {q c : Nat} {p : Nat × Nat} (h : (m.row q).st c = some p) : p.2 ∈ m.nx q := by
  unfold MRow.st at h
  cases e : (m.row q).ss[c]? with
  | none => rw [e] at h; cases h
  | some s =>
    rw [e] at h
    have h' : s = some p := h
    subst h'
    exact List.mem_filterMap.mpr ⟨_, List.mem_of_getElem? e, rfl⟩
theorem Mac.Rch.lt {m : Mac} (h : m.Ok) {a b : Nat} (ha : a < m.rs.length) (k : m.Rch a b) : b < m.rs.length := by
  induction k with
  | refl => exact ha
  | step _ e ih => exact Mac.nx_lt h ih e
/-- closed sets hold all that is reached -/
theorem Mac.Rch.closed {m : Mac} {F : Nat → Prop} (hc : ∀ q, F q → ∀ r ∈ m.nx q, F r) {a b : Nat} (ha : F a) (k : m.Rch a b) : F b := by
  induction k with
  | refl => exact ha
  | step _ e ih => exact hc _ ih _ e
theorem Mac.Coe.closed {m : Mac} (h : m.Ok) {F : Nat → Prop} (he : ∀ q, q < m.rs.length → (m.row q).fin ≠ none → F q) (hc : ∀ q, q < m.rs.length → (∃ r ∈ m.nx q, F r) → F q) {a : Nat} (ha : a < m.rs.length) (k : m.Coe a) : F a := by
  obtain ⟨r, k, e⟩ := k
  have key : ∀ {a b : Nat}, m.Rch a b → a < m.rs.length → F b → F a := by
    intro a b k ha hb
    induction k with
    | refl => exact hb
    | step k1 e1 ih => exact ih (hc _ (k1.lt h ha) ⟨_, e1, hb⟩)
  exact key k ha (he r (k.lt h ha) e)
open Classical in
noncomputable def Mac.live (m : Mac) : List Nat := (List.range m.rs.length).filter fun q => decide (m.Rch 0 q ∧ m.Coe q)
open Classical in
theorem Mac.live_mem {m : Mac} (h : m.Ok) {q : Nat} : q ∈ m.live ↔ m.Rch 0 q ∧ m.Coe q := by
  unfold Mac.live
  rw [List.mem_filter, List.mem_range, decide_eq_true_eq]
  exact ⟨fun z => z.2, fun z => ⟨z.1.lt h (by have := h.r1; omega), z⟩⟩
theorem Mac.live_lt {m : Mac} {q : Nat} (hq : q ∈ m.live) : q < m.rs.length := List.mem_range.mp (List.mem_filter.mp hq).1
theorem Mac.live_nd {m : Mac} : m.live.Nodup := List.Pairwise.filter _ List.nodup_range
theorem Mac.live_srt {m : Mac} : m.live.Pairwise (· < ·) := List.Pairwise.filter _ List.pairwise_lt_range
def MSt.keep (l : List Nat) (s : MSt) : MSt := s.bind fun p => if p.2 ∈ l then some (p.1, l.idxOf p.2) else none
def MRow.keep (l : List Nat) (r : MRow) : MRow := ⟨r.fin, r.ss.map (MSt.keep l)⟩
open Classical in
noncomputable def Mac.trim (m : Mac) : Mac := if 0 ∈ m.live then ⟨m.n, m.live.map fun q => (m.row q).keep m.live⟩ else ⟨m.n, [⟨none, List.replicate m.n none⟩]⟩
/-- dicts whose keys are states -/
def eK (fs : List Nat) : List (L2.Key × D) := fs.map fun q : Nat => (.inl (q : Int), .p (.bool true))
theorem eK_get {fs : List Nat} {q : Nat} : getK (eK fs) (.inl (q : Int)) = if q ∈ fs then some (.p (.bool true)) else none := by
  induction fs with
  | nil => rfl
  | cons a fs ih =>
    unfold eK getK at ih ⊢
    simp only [List.map_cons, List.find?_cons]
    by_cases e : a = q
    · subst e; simp
    · have e' : ¬ ((Sum.inl (a : Int) : L2.Key) = Sum.inl (q : Int)) := fun z => e (by injection z with z; omega)
      have e2 : ¬ q = a := fun z => e z.symm
      simp only [e', decide_false, List.mem_cons, e2, false_or]
      exact ih
theorem eK_set {fs : List Nat} {q : Nat} (h : q ∉ fs) : setK (eK fs) (.inl (q : Int)) (.p (.bool true)) = eK (fs ++ [q]) := by
  unfold setK
  rw [if_neg]
  · simp [eK]
  · intro z
    obtain ⟨x, hx, e⟩ := List.any_eq_true.mp z
    obtain ⟨a, ha, rfl⟩ := List.mem_map.mp hx
    have e' : (Sum.inl (a : Int) : L2.Key) = Sum.inl (q : Int) := by simpa using e
    injection e' with e'
    exact h (by rw [← Int.ofNat_inj.mp e']; exact ha)
@[simp] theorem eK_len {fs : List Nat} : (eK fs).length = fs.length := by simp [eK]
theorem eK_all {fs : List Nat} : allKP (eK fs) = some (fs.map fun q : Nat => (.int (q : Int), .bool true)) := by
  induction fs with
  | nil => rfl
  | cons a fs ih =>
    unfold eK at ih ⊢
    simp [allKP, ih, keyD]
theorem kvD_eK {fs : List Nat} : kvD (fs.map fun q : Nat => (.int (q : Int), .bool true)) = some (eK fs) := by
  induction fs with
  | nil => rfl
  | cons a fs ih => simp [kvD, keyOf, ih, eK]
theorem keysI_eK {fs : List Nat} : keysI (eK fs) = some (fs.map fun q : Nat => (q : Int)) := by
  induction fs with
  | nil => rfl
  | cons a fs ih =>
    unfold eK at ih ⊢
    simp [keysI, ih]
def eFs (fs : List Nat) : PyData := .dict (fs.map fun q : Nat => (.int (q : Int), .bool true))
theorem dictV_eFs {fs : List Nat} {s : S} : dictV (.p (eFs fs)) s = some (eK fs) := kvD_eK
theorem srt_of {l m : List Nat} (hp : l.Perm m) (hm : m.Pairwise (· < ·)) : srtI (l.map fun q : Nat => (q : Int)) = m.map fun q : Nat => (q : Int) := by
  refine srt_uniq (srtI_srt _) ?_ ((srtI_perm _).trans (hp.map _))
  rw [List.pairwise_map]
  exact hm.imp fun h => by omega
theorem perm_of {l m : List Nat} (hl : l.Nodup) (hm : m.Nodup) (h : ∀ x, x ∈ l ↔ x ∈ m) : l.Perm m := (List.perm_ext_iff_of_nodup hl hm).mpr h
theorem enumRows {m : Mac} : enumItems (m.rs.map eR) = (List.range m.rs.length).map fun q : Nat => D.p (.tuple [.int (q : Int), eR (m.row q)]) := by
  apply List.ext_getElem?
  intro i
  unfold enumItems
  rw [List.getElem?_mapIdx, List.getElem?_map, List.getElem?_map]
  by_cases hi : i < m.rs.length
  · simp [hi, Mac.row_eq hi]
  · simp [hi]
theorem ixD_eK {fs : List Nat} {q : Nat} (h : q ∈ fs) {s : S} : dIn (.p (.int (q : Int))) (.p (eFs fs)) s = .ok (.p (.bool true)) s := by
  simp [dIn, inB, lstP, dictV_eFs, keyOf, eK_get, h, eFs, dictV, kvD_eK]
theorem in_eFs {fs : List Nat} {q : Nat} {s : S} : dIn (.p (.int (q : Int))) (.p (eFs fs)) s = .ok (.p (.bool (decide (q ∈ fs)))) s := by
  by_cases h : q ∈ fs <;> simp [dIn, inB, lstP, keyOf, eK_get, h, eFs, dictV, kvD_eK]
theorem notin_eFs {fs : List Nat} {q : Nat} {s : S} : dNotIn (.p (.int (q : Int))) (.p (eFs fs)) s = .ok (.p (.bool (!decide (q ∈ fs)))) s := by
  by_cases h : q ∈ fs <;> simp [dNotIn, inB, lstP, keyOf, eK_get, h, eFs, dictV, kvD_eK]
theorem in_ref {fs : List Nat} {q i : Nat} {s : S} (e : s.g[i]? = some (some (.dct (eK fs)))) : dIn (.p (.int (q : Int))) (.ref i) s = .ok (.p (.bool (decide (q ∈ fs)))) s := by
  by_cases h : q ∈ fs <;> simp [dIn, inB, lstP, keyOf, eK_get, h, dictV, e]
theorem notin_ref {fs : List Nat} {q i : Nat} {s : S} (e : s.g[i]? = some (some (.dct (eK fs)))) : dNotIn (.p (.int (q : Int))) (.ref i) s = .ok (.p (.bool (!decide (q ∈ fs)))) s := by
  by_cases h : q ∈ fs <;> simp [dNotIn, inB, lstP, keyOf, eK_get, h, dictV, e]
theorem nd_len : ∀ {n : Nat} {l : List Nat}, l.Nodup → (∀ x ∈ l, x < n) → l.length ≤ n
  | 0, l, _, h => by
    cases l with
    | nil => simp
    | cons a l => exact absurd (h a List.mem_cons_self) (by omega)
  | n + 1, l, nd, h => by
    by_cases hn : n ∈ l
    · have h1 : (l.erase n).length ≤ n := nd_len (nd.erase n) fun x hx => by
        have := (List.Nodup.mem_erase_iff nd).mp hx
        have := h x this.2
        omega
      have := List.length_erase_of_mem hn
      omega
    · have := nd_len (n := n) nd fun x hx => by
        have h1 := h x hx
        have : x ≠ n := fun e => hn (e ▸ hx)
        omega
      omega
theorem pop_last {a : Option G} {xs : List D} {y : D} {w : GH} : fPop (.ref 1) [] ⟨[a, some (.lst (xs ++ [y]))], w⟩ = .ok y ⟨[a, some (.lst xs)], w⟩ := by
  simp [fPop]
theorem pure_ex {f : List D → S → R D} {ds : List D} {s : S} {P : PyData → Prop} (ho : onlyP ds = true) (h : Gets (f ds ⟨[], s.w⟩) fun d s' => s'.w = s.w ∧ ∃ x, d = .p x ∧ P x) : ∃ x, P x ∧ pureRun f ds s = .ok (.p x) s := by
  obtain ⟨d, s', e, h2, x, rfl, px⟩ := h
  refine ⟨x, px, ?_⟩
  unfold pureRun
  rw [if_pos ho]
  simp only [e, h2]
/-- a state's new number -/
def eN2 (l : List Nat) : List (L2.Key × D) := l.mapIdx fun i (q : Nat) => (.inl (q : Int), .p (.int (i : Nat)))
def eNum (l : List Nat) : PyData := .dict (l.mapIdx fun i (q : Nat) => (.int (q : Int), .int (i : Nat)))
theorem getK_num : ∀ {l : List Nat} {k : Nat}, l.Nodup → ∀ {q : Nat}, getK (l.mapIdx fun i (a : Nat) => ((Sum.inl (a : Int) : L2.Key), D.p (.int ((i + k : Nat) : Int)))) (.inl (q : Int)) = if q ∈ l then some (.p (.int ((l.idxOf q + k : Nat) : Int))) else none
  | [], k, _, q => rfl
  | a :: l, k, nd, q => by
    have nd' := List.nodup_cons.mp nd
    rw [List.mapIdx_cons]
    unfold getK
    rw [List.find?_cons]
    by_cases e : a = q
    · subst e
      simp
    · have e' : ¬ ((Sum.inl (a : Int) : L2.Key) = Sum.inl (q : Int)) := fun z => e (by injection z with z; omega)
      have e2 : ¬ q = a := fun z => e z.symm
      simp only [e', decide_false]
      have ih := getK_num (l := l) (k := k + 1) nd'.2 (q := q)
      unfold getK at ih
      have e3 : (fun (i : Nat) (a : Nat) => ((Sum.inl (a : Int) : L2.Key), D.p (.int ((i + 1 + k : Nat) : Int)))) = fun i (a : Nat) => (Sum.inl (a : Int), D.p (.int ((i + (k + 1) : Nat) : Int))) := by
        funext i a
        rw [show i + 1 + k = i + (k + 1) by omega]
      rw [e3, ih]
      have e4 : (a == q) = false := by simpa using e
      by_cases hq : q ∈ l
      · simp only [hq, if_true, List.mem_cons, or_true, List.idxOf_cons, e4, cond_false]
        simp; omega
      · simp [hq, e2]
theorem kvD_num : ∀ {l : List Nat} {k : Nat}, kvD (l.mapIdx fun i (a : Nat) => (PyData.int (a : Int), PyData.int ((i + k : Nat) : Int))) = some (l.mapIdx fun i (a : Nat) => ((Sum.inl (a : Int) : L2.Key), D.p (.int ((i + k : Nat) : Int))))
  | [], k => rfl
  | a :: l, k => by
    rw [List.mapIdx_cons, List.mapIdx_cons]
    have e3 : (fun (i : Nat) (a : Nat) => (PyData.int (a : Int), PyData.int ((i + 1 + k : Nat) : Int))) = fun i (a : Nat) => (PyData.int (a : Int), PyData.int ((i + (k + 1) : Nat) : Int)) := by
      funext i a
      rw [show i + 1 + k = i + (k + 1) by omega]
    have e4 : (fun (i : Nat) (a : Nat) => ((Sum.inl (a : Int) : L2.Key), D.p (.int ((i + 1 + k : Nat) : Int)))) = fun i (a : Nat) => (Sum.inl (a : Int), D.p (.int ((i + (k + 1) : Nat) : Int))) := by
      funext i a
      rw [show i + 1 + k = i + (k + 1) by omega]
    rw [e3, e4]
    simp only [kvD, keyOf, kvD_num (l := l) (k := k + 1), Nat.zero_add]
theorem dictV_num {l : List Nat} {s : S} : dictV (.p (eNum l)) s = some (eN2 l) := kvD_num (k := 0)
theorem get_num {l : List Nat} (nd : l.Nodup) {q : Nat} : getK (eN2 l) (.inl (q : Int)) = if q ∈ l then some (.p (.int ((l.idxOf q : Nat) : Int))) else none := getK_num (k := 0) nd
theorem notin_num {l : List Nat} (nd : l.Nodup) {q : Nat} {s : S} : dNotIn (.p (.int (q : Int))) (.p (eNum l)) s = .ok (.p (.bool (!decide (q ∈ l)))) s := by
  have e := dictV_num (l := l) (s := s)
  have e1 : lstP (.p (eNum l)) s = none := rfl
  have e2 : inB (.p (.int (q : Int))) (.p (eNum l)) s = some (decide (q ∈ l)) := by
    simp only [inB, eNum] at e1 e ⊢
    simp only [e1, e, keyOf, Option.map_some, get_num nd]
    by_cases h : q ∈ l <;> simp [h]
  unfold dNotIn
  rw [e2]
theorem ix_num {l : List Nat} (nd : l.Nodup) {q : Nat} (h : q ∈ l) {s : S} : dIxD (.p (eNum l)) (.p (.int (q : Int))) s = .ok (.p (.int ((l.idxOf q : Nat) : Int))) s := by
  unfold dIxD
  rw [dictV_num]
  simp only [keyOf, Option.bind_some, get_num nd, h, if_true]
theorem enum_idx {l : List Nat} : enumItems (l.map fun q : Nat => .int (q : Int)) = (List.range l.length).map fun i : Nat => D.p (.tuple [.int (i : Int), .int ((l[i]?.getD 0 : Nat) : Int)]) := by
  apply List.ext_getElem?
  intro i
  unfold enumItems
  rw [List.getElem?_mapIdx, List.getElem?_map, List.getElem?_map]
  by_cases hi : i < l.length
  · simp [hi]
  · simp [hi]
theorem num_map {l : List Nat} : ((List.range l.length).map fun i : Nat => ((Sum.inl ((l[i]?.getD 0 : Nat) : Int) : L2.Key), D.p (.int (i : Int)))) = eN2 l := by
  apply List.ext_getElem?
  intro i
  unfold eN2
  rw [List.getElem?_mapIdx, List.getElem?_map]
  by_cases hi : i < l.length
  · simp [hi]
  · simp [hi]
theorem allKP_num : ∀ {l : List Nat} {k : Nat}, allKP (l.mapIdx fun i (a : Nat) => ((Sum.inl (a : Int) : L2.Key), D.p (.int ((i + k : Nat) : Int)))) = some (l.mapIdx fun i (a : Nat) => (PyData.int (a : Int), PyData.int ((i + k : Nat) : Int)))
  | [], k => rfl
  | a :: l, k => by
    rw [List.mapIdx_cons, List.mapIdx_cons]
    have e3 : (fun (i : Nat) (a : Nat) => (PyData.int (a : Int), PyData.int ((i + 1 + k : Nat) : Int))) = fun i (a : Nat) => (PyData.int (a : Int), PyData.int ((i + (k + 1) : Nat) : Int)) := by
      funext i a
      rw [show i + 1 + k = i + (k + 1) by omega]
    have e4 : (fun (i : Nat) (a : Nat) => ((Sum.inl (a : Int) : L2.Key), D.p (.int ((i + 1 + k : Nat) : Int)))) = fun i (a : Nat) => (Sum.inl (a : Int), D.p (.int ((i + (k + 1) : Nat) : Int))) := by
      funext i a
      rw [show i + 1 + k = i + (k + 1) by omega]
    rw [e3, e4]
    simp only [allKP, keyD, allKP_num (l := l) (k := k + 1), Nat.zero_add, Option.map_some]
theorem frz_num {l : List Nat} {s : S} : kFrzD (eN2 l) s = .ok (.p (eNum l)) s := by
  unfold kFrzD
  rw [show allKP (eN2 l) = _ from allKP_num (k := 0)]
  rfl
theorem Mac.trim_ok {m : Mac} (h : m.Ok) : m.trim.Ok := by
  unfold Mac.trim
  split
  · refine ⟨h.n1, h.n8, ?_, ?_, ?_⟩
    · rename_i h0
      simp only [List.length_map]
      exact List.length_pos_of_mem h0
    · simp only [List.length_map]
      have := nd_len (n := m.rs.length) (Mac.live_nd (m := m)) fun x hx => Mac.live_lt hx
      have := h.r30
      omega
    · intro r hr
      simp only [List.length_map] at hr ⊢
      obtain ⟨q, hq, rfl⟩ := List.mem_map.mp hr
      have hrow := h.row (Mac.live_lt hq)
      refine ⟨by simp [MRow.keep, hrow.len], hrow.fin, ?_⟩
      intro s hs
      obtain ⟨t, ht, rfl⟩ := List.mem_map.mp hs
      intro p e
      unfold MSt.keep at e
      obtain ⟨p', ep, e'⟩ := Option.bind_eq_some_iff.mp e
      subst ep
      split at e'
      · rename_i hin
        cases e'
        exact ⟨(hrow.ss _ ht p' rfl).1, List.idxOf_lt_length_of_mem hin⟩
      · cases e'
  · refine ⟨h.n1, h.n8, by simp, by simp, ?_⟩
    intro r hr
    simp only [List.mem_singleton] at hr
    subst hr
    refine ⟨by simp, (fun k e => by cases e), ?_⟩
    intro s hs
    simp only [List.mem_replicate] at hs
    rw [hs.2]
    exact fun p e => by cases e
theorem Mac.trim_n {m : Mac} : m.trim.n = m.n := by
  unfold Mac.trim
  split <;> rfl
/-! ### lists of numbers as data -/
theorem canLay_ints : ∀ {l : List Nat}, PyData.canLayAll0 (l.map eN) = true
  | [] => rfl
  | a :: l => by simp [PyData.canLayAll0, PyData.canLay0, eN, canLay_ints (l := l)]
theorem depth_ints : ∀ {l : List Nat}, PyData.depthAll (l.map eN) = 0
  | [] => rfl
  | a :: l => by simp [PyData.depthAll, PyData.depth, eN, depth_ints (l := l)]
theorem shaped_ints {l : List Nat} : SeqAt.shaped (.list (l.map eN)) = true := by
  simp [SeqAt.shaped, PyData.canLay0, canLay_ints, PyData.depth, depth_ints]
theorem shaped_int {i : Int} : SeqAt.shaped (.int i) = true := by simp [SeqAt.shaped, PyData.canLay0, PyData.depth]
theorem any_ints {l : List Nat} {q : Nat} : ((l.map eN).any fun z => PyData.eqv z (.int (q : Int))) = decide (q ∈ l) := by
  induction l with
  | nil => rfl
  | cons a l ih =>
    have e : PyData.eqv (eN a) (.int (q : Int)) = decide (q = a) := by
      simp only [eN, PyData.eqv, beq_dec]
      by_cases h : q = a
      · subst h; simp
      · have : ¬ ((a : Int) = (q : Int)) := by omega
        simp [h, this]
    simp only [List.map_cons, List.any_cons, ih, e, List.mem_cons, Bool.decide_or]
theorem in_list {l : List Nat} {q : Nat} {s : S} : dIn (.p (.int (q : Int))) (.p (.list (l.map eN))) s = .ok (.p (.bool (decide (q ∈ l)))) s := by
  simp only [dIn, inB, lstP, shaped_int, shaped_ints, Bool.and_self, if_true, any_ints]
theorem notin_list {l : List Nat} {q : Nat} {s : S} : dNotIn (.p (.int (q : Int))) (.p (.list (l.map eN))) s = .ok (.p (.bool (!decide (q ∈ l)))) s := by
  simp only [dNotIn, inB, lstP, shaped_int, shaped_ints, Bool.and_self, if_true, any_ints]
theorem in_lref {l : List Nat} {q i : Nat} {s : S} (e : s.g[i]? = some (some (.lst (l.map fun q => D.p (eN q))))) : dIn (.p (.int (q : Int))) (.ref i) s = .ok (.p (.bool (decide (q ∈ l)))) s := by
  simp only [dIn, inB, lstP, e, allP_map, shaped_int, shaped_ints, Bool.and_self, if_true, any_ints]
theorem notin_lref {l : List Nat} {q i : Nat} {s : S} (e : s.g[i]? = some (some (.lst (l.map fun q => D.p (eN q))))) : dNotIn (.p (.int (q : Int))) (.ref i) s = .ok (.p (.bool (!decide (q ∈ l)))) s := by
  simp only [dNotIn, inB, lstP, e, allP_map, shaped_int, shaped_ints, Bool.and_self, if_true, any_ints]
theorem find_ints : ∀ {l : List Nat} {q : Nat}, q ∈ l → (l.map eN).findIdx? (fun z => PyData.eqv z (.int (q : Int))) = some (l.idxOf q)
  | a :: l, q, h => by
    rw [List.map_cons, List.findIdx?_cons]
    by_cases e : a = q
    · subst e
      have : PyData.eqv (eN a) (.int (a : Int)) = true := by simp [eN, PyData.eqv]
      simp [this]
    · have e1 : PyData.eqv (eN a) (.int (q : Int)) = false := by
        simp only [eN, PyData.eqv, beq_dec]
        have : ¬ ((a : Int) = (q : Int)) := by omega
        simp [this]
      have hq : q ∈ l := by
        rcases List.mem_cons.mp h with h | h
        · exact absurd h.symm e
        · exact h
      have e2 : (a == q) = false := by simpa using e
      simp only [e1, Bool.false_eq_true, if_false, find_ints hq, Option.map_some, List.idxOf_cons, e2, cond_false]
theorem index_list {l : List Nat} {q : Nat} (h : q ∈ l) {s : S} : fIndex (.p (.list (l.map eN))) [.p (.int (q : Int))] s = .ok (.p (.int ((l.idxOf q : Nat) : Int))) s := by
  simp only [fIndex, lstP, shaped_int, shaped_ints, Bool.and_self, if_true, find_ints h]
theorem sorted_list {l m : List Nat} (hp : l.Perm m) (hm : m.Pairwise (· < ·)) {s : S} : fSortedF [.p (.list (l.map eN))] s = .ok (.p (.list (m.map eN))) s := by
  have e : allI (l.map eN) = some (l.map fun q : Nat => (q : Int)) := allI_map
  have e2 : ((m.map fun q : Nat => (q : Int)).map PyData.int) = m.map eN := by simp [eN, Function.comp_def]
  simp only [fSortedF, lstP, e, srt_of hp hm, e2]
theorem filt_some {α β : Type} {g : α → β} {d : α} : ∀ {l : List (Option α)}, (l.filter Option.isSome).map (fun s => g (s.getD d)) = (l.filterMap fun s => s.map g)
  | [] => rfl
  | none :: l => by simp [filt_some (l := l)]
  | some a :: l => by simp [filt_some (l := l)]
/-- the new ones, each once -/
def freshL (fs : List Nat) : List Nat → List Nat → List Nat
  | [], acc => acc
  | x :: xs, acc => if x ∉ fs ∧ x ∉ acc then freshL fs xs (acc ++ [x]) else freshL fs xs acc
theorem freshL_spec {fs : List Nat} : ∀ {xs acc : List Nat}, acc.Nodup → (∀ x ∈ acc, x ∉ fs) → (freshL fs xs acc).Nodup ∧ (∀ x ∈ freshL fs xs acc, x ∉ fs) ∧ (∀ x, x ∈ freshL fs xs acc ↔ x ∈ acc ∨ (x ∈ xs ∧ x ∉ fs)) ∧ (freshL fs xs acc).length ≤ acc.length + xs.length
  | [], acc, nd, h => ⟨nd, h, fun x => by simp [freshL], by simp [freshL]⟩
  | x :: xs, acc, nd, h => by
    unfold freshL
    split
    · rename_i hx
      have nd2 : (acc ++ [x]).Nodup := by
        rw [List.nodup_append]
        refine ⟨nd, by simp, ?_⟩
        simp only [List.mem_singleton, forall_eq, ne_eq]
        exact fun a ha e => hx.2 (e ▸ ha)
      obtain ⟨h1, h2, h3, h4⟩ := freshL_spec (xs := xs) nd2 (fun y hy => by
        rcases List.mem_append.mp hy with hy | hy
        · exact h y hy
        · rw [List.mem_singleton.mp hy]; exact hx.1)
      refine ⟨h1, h2, fun y => ?_, by simp at h4 ⊢; omega⟩
      rw [h3, List.mem_append, List.mem_singleton, List.mem_cons]
      constructor
      · rintro ((a | a) | a)
        · exact .inl a
        · exact .inr ⟨.inl a, a ▸ hx.1⟩
        · exact .inr ⟨.inr a.1, a.2⟩
      · rintro (a | ⟨a | a, b⟩)
        · exact .inl (.inl a)
        · exact .inl (.inr a)
        · exact .inr ⟨a, b⟩
    · rename_i hx
      obtain ⟨h1, h2, h3, h4⟩ := freshL_spec (xs := xs) nd h
      refine ⟨h1, h2, fun y => ?_, by simp at h4 ⊢; omega⟩
      rw [h3, List.mem_cons]
      constructor
      · rintro (a | a)
        · exact .inl a
        · exact .inr ⟨.inr a.1, a.2⟩
      · rintro (a | ⟨a | a, b⟩)
        · exact .inl a
        · subst a
          by_cases z : y ∈ acc
          · exact .inl z
          · exact absurd ⟨b, z⟩ hx
        · exact .inr ⟨a, b⟩
theorem mul_none {n : Nat} (h1 : 1 ≤ n) (h8 : n ≤ 8) : (if (n : Int) = 1 then some (PyData.tuple [.none]) else if 2 ≤ (n : Int) ∧ (n : Int) ≤ 1000 then some (.tuple (List.replicate n .none)) else none) = some (.tuple (List.replicate n .none)) := by
  by_cases e : (n : Int) = 1
  · have : n = 1 := by omega
    subst this
    rfl
  · rw [if_neg e, if_pos ⟨by omega, by omega⟩]
theorem rep_none {n : Nat} : (List.replicate n [PyData.none]).flatten = List.replicate n PyData.none := by
  induction n with
  | zero => rfl
  | succ n ih => simp [List.replicate_succ, ih]
end Mp

/-! MP, part R: defs that are promised only outside of any repr that runs. -/
namespace Mp
open PySem PySem.Spec PyProof.Rows L2
/-- a def's promise where no repr runs around it -/
structure FnOkG (P : Program) (w : World) (K : PySem.W.Frag) (mg : Str → Option Value) (base : Heap) (k : Nat) (f : Addr) (fd : FuncData) (ps : List Str) (sp : Sp) : Prop where
  len : ∀ vs H Q E, sp vs H Q E → vs.length = ps.length
  run : ∀ (A : Around) (outer : List Env) (s : Shared) (H : Hp) (as : Args) (us : List Value) (vs : List V) (Q : VK) (E : XK), A.guards = some [] → Room k A → Env0 P w K mg base A outer s H → BindsTo s fd as (ps.zip us) → Vals vs us → sp vs H Q E →
    codeAny (model P w) A (.call (.ref f) as) (CR (L2.CX P w) outer P w H s Q E) s
theorem fn_ofG {P : Program} {w : World} {K : PySem.W.Frag} {mg : Str → Option Value} {base : Heap} {k : Nat} {f : Addr} {x qual : Str} {params : Arguments} {body : List Stmt} {scope : Scope} {fd : FuncData} {N ps : List Str} {sp : Sp} (F : FunD K x qual params body scope [] [] f fd) (S : FnScope N ps scope)
    (len : ∀ vs H Q E, sp vs H Q E → vs.length = ps.length)
    (hbody : ∀ (cdv : Value) (A : Around) (outer : List Env) (s : Shared) (H : Hp) (vs : List V) (Q : VK) (E : XK), A.guards = some [] → Room k (A.deeper (envOfC qual scope s.heap.objs.size f cdv)) → sp vs H Q E →
      ∃ t, PSs (cxOf (L2.CX P w) P w K mg base N qual scope f cdv A outer s H E) body t ∧ t { nx := fun _ H' => Q .non H', rt := Q } (start N vs) H) : FnOkG P w K mg base (k + 1) f fd ps sp := by
  obtain ⟨oc, od, dV, kV, doc, pm, an, cdv, ct, osl, rfl, lk, hcd, _, _⟩ := F.ex
  refine ⟨len, fun A outer s H as us vs Q E hg hr e0 hb rv hsp => ?_⟩
  have lenV := len _ _ _ _ hsp
  have keep := fun b o (e : base.get? b = some o) => (e0.bs b o e).1
  have par : ∀ y ∈ ps.zip us, scope.names.lookup y.1 = some .local ∨ (scope.names.lookup y.1 = some .cell ∧ ((cellsFrom (s.heap.objs.size + 1) scope.names []).lookup y.1).isSome = true) := by
    rintro ⟨n, v⟩ hy
    exact (S.par n (List.of_mem_zip hy).1).imp id fun q => ⟨q, PySem.W.cellsFrom_some _ _ _ (.inl q)⟩
  refine codeAny_call_function hr.depth (e0.mod.kin.keeps keep _ _ lk) rfl S.co S.gen rfl (PySem.W.codeRec_of (e0.mod.kin.keeps keep) hcd) (hb _ _ _ _ (wpAny_newFunctionEnv_cells S.kind par fun env he s1 y => ?_))
  subst he
  refine ⟨(e0.mod.nolimit.keeps keep).keeps y.toInCall.keep, codeAny_func ?_⟩
  obtain ⟨t, ht, hq⟩ := hbody cdv A outer s H vs Q E hg (hr.deeper _) hsp
  refine wpAny_mono (ht.run [] s1 (start N vs) H _ (inv_start S hr.hd e0 lenV rv y) hq) (fun fl s' hs => ?_) fun _ _ z => z
  cases fl with
  | ret u => obtain ⟨v, σ', H', J, z1, z2⟩ := hs; exact ⟨v, H', J.os, J.bare, J.base, J.hok, z1, z2⟩
  | next => obtain ⟨σ', H', J, z2⟩ := hs; exact ⟨.non, H', J.os, J.bare, J.base, J.hok, rfl, z2⟩
  | brk => obtain ⟨_, _, _, z⟩ := hs; exact z.elim
  | cont => obtain ⟨_, _, _, z⟩ := hs; exact z.elim
theorem def_fnG {P : Program} {w : World} {K : PySem.W.Frag} {mg : Str → Option Value} {base : Heap} {x : Str} {st : Stmt} {N ps : List Str} {k n z : Nat} {m : MS} (Sc : FnScope N ps (defScope st)) (hn : ps.length = n) (hz : N.length = z)
    (hm : ∀ (f : Addr) (cdv : Value) (A : Around) (outer : List Env) (s : Shared) (H : Hp) (E : XK), Room k (cxD P w K mg base N x st f cdv A outer s H E).A → N.Nodup → Takes (cxD P w K mg base N x st f cdv A outer s H E) (wOut E) →
      PassesOwn (model P w) (cxD P w K mg base N x st f cdv A outer s H E).A (cxD P w K mg base N x st f cdv A outer s H E).env (cxD P w K mg base N x st f cdv A outer s H E).xe → (cxD P w K mg base N x st f cdv A outer s H E).A.guards = some [] →
      PSs (cxD P w K mg base N x st f cdv A outer s H E) (defBody st) (LS (cxD P w K mg base N x st f cdv A outer s H E) (wOut E) m)) :
    ∀ f fd, FunD K x x (defArgs st) (defBody st) (defScope st) [] [] f fd → FnOkG P w K mg base (k + 1) f fd ps (spM ⟨K, mg⟩ n (fnM n z m)) := fun f fd F => by
  subst hn
  subst hz
  refine fn_ofG F Sc (fun vs H Q E h => h.1) fun cdv A outer s H vs Q E hg hr hsp => ⟨_, hm f cdv A outer s H E hr Sc.nd (takes_of rfl rfl rfl rfl) (passes_of rfl) hg, ?_⟩
  obtain ⟨hl, ds, c, e, r, q, h⟩ := hsp
  have hl2 : ds.length = ps.length := by rw [Paired.length q]; exact hl
  have re : RE (yx (cxOf (L2.CX P w) P w K mg base N x (defScope st) f cdv A outer s H E)) c _ _ := re_start (N := N) q
  refine ⟨_, c, e, re, r, ?_⟩
  unfold fnM at h
  rw [if_pos hl2, ← hl] at h
  generalize hbd : m (ds.map some ++ List.replicate (N.length - vs.length) none) c.s = z at h ⊢
  cases z with
  | nx env' s' => exact fun σ' c' e' st r' re' => h .non c' e' st r' (by show RP K c'.H .none .non; simp [RP])
  | ret d s' => exact fun v c' e' st r' rd' => h v c' e' st r' rd'
  | ex x fs env' s' => exact fun cv dx σ' c' e' st r' xr re' => h cv dx c' e' st r' xr
  | brk env' s' => exact h.elim
  | cont env' s' => exact h.elim
  | bad => exact h.elim
def DefOkG (P : Program) (w : World) (K : PySem.W.Frag) (mg : Str → Option Value) (base : Heap) (x : Str) (k n : Nat) (m : List D → S → R D) : Prop :=
  ∃ (f : Addr) (fd : FuncData) (ps : List Str), FnOkG P w K mg base k f fd ps (spM ⟨K, mg⟩ n m) ∧ mg x = some (.ref f) ∧ PySem.W.keepIn K (.ref f) = true ∧ Binds K fd ps [] ∧ ps.length = n
theorem def_mkG {P : Program} {w : World} {K : PySem.W.Frag} {mg : Str → Option Value} {base : Heap} {x : Str} {st : Stmt} {N ps : List Str} {k n z : Nat} {m : MS} (h : DefAt K mg x st) (Sc : FnScope N ps (defScope st)) (hb : BindN x st ps) (hn : ps.length = n) (hz : N.length = z)
    (hm : ∀ (f : Addr) (cdv : Value) (A : Around) (outer : List Env) (s : Shared) (H : Hp) (E : XK), Room k (cxD P w K mg base N x st f cdv A outer s H E).A → N.Nodup → Takes (cxD P w K mg base N x st f cdv A outer s H E) (wOut E) →
      PassesOwn (model P w) (cxD P w K mg base N x st f cdv A outer s H E).A (cxD P w K mg base N x st f cdv A outer s H E).env (cxD P w K mg base N x st f cdv A outer s H E).xe → (cxD P w K mg base N x st f cdv A outer s H E).A.guards = some [] →
      PSs (cxD P w K mg base N x st f cdv A outer s H E) (defBody st) (LS (cxD P w K mg base N x st f cdv A outer s H E) (wOut E) m)) :
    DefOkG P w K mg base x (k + 1) n (fnM n z m) := by
  obtain ⟨f, fd, F, hf⟩ := h
  exact ⟨f, fd, ps, def_fnG Sc hn hz hm f fd F, hf, F.kp, F.bindsN hb, hn⟩
theorem DefOkG.run {P : Program} {w : World} {K : PySem.W.Frag} {mg : Str → Option Value} {base : Heap} {x : Str} {k n : Nat} {m m' : List D → S → R D} (h : DefOkG P w K mg base x k n m)
    (i : ∀ (Y : Md) (vs : List V) (c : Cf) (ds : List D) (Q : VK) (E : XK), vs.length = n → Rel Y c → rds Y c ds vs → Post Y (rd Y) (fun cv dx H' => E cv dx H') c (m' ds c.s) Q → spM Y n m vs c.H Q E) : DefOkG P w K mg base x k n m' := by
  obtain ⟨f, fd, ps, F, h2⟩ := h
  have im : ∀ vs H Q E, spM ⟨K, mg⟩ n m' vs H Q E → spM ⟨K, mg⟩ n m vs H Q E := by
    intro vs H Q E ⟨hl, ds, c, e, r, q, hp⟩
    subst e
    exact i _ vs c ds Q E hl r q hp
  exact ⟨f, fd, ps, ⟨fun vs H Q E h => F.len vs H Q E (im _ _ _ _ h), fun A outer s H as us vs Q E hg hr e0 hb rv hs => F.run A outer s H as us vs Q E hg hr e0 hb rv (im _ _ _ _ hs)⟩, h2⟩
theorem DefOkG.alone {P : Program} {w : World} {K : PySem.W.Frag} {mg : Str → Option Value} {base : Heap} {x : Str} {k n : Nat} {m : List D → S → R D} (h : DefOkG P w K mg base x k n m) : DefOkG P w K mg base x k n (pureRun m) := h.run fun _ _ _ _ _ _ hl r q hp => pureRun_ok hl r q hp
section
variable {X : Cx} {W : WX} {pos : Pos} {es : List Expr} {ms : MA}
theorem e_callSG {k j n : Nat} {x : Str} {p : Pos} {e : Expr} {m : List D → S → R D} (F : DefOkG X.prog X.w X.K X.mg X.base x j n m) (hgd : X.A.guards = some []) (hr : Room k X.A) (hj : j ≤ k) (tk : Takes X W) (ha : PA X (e :: es) (LA X W ms)) (hl : ArgN ms n) (hg : Gl X x := by rfl)
    (hdb : (x == ("__debug__" : Str)) = false := by decide) (he : starEach (e :: es) X.env = (false, eval e X.env) :: starEach es X.env := by rfl) (hpl : (backTo pos (starEach es X.env)).any (·.1) = false := by rfl) :
    PE X (.Call (.Name x p) (e :: es) [] pos) (LE X W (mCall m ms)) := by
  obtain ⟨f, fd, ps, F1, F2, F3, F4, F5⟩ := F
  refine ⟨fun pins s σ H Q I ⟨env, c, ec, re, rr, h⟩ => ?_⟩
  refine wpAny_Call_Name_kw (ld_glob I hg F2 ?_ hdb)
  have h' : LA X W ms σ H (fun vs H1 => spM (yx X) n m vs H1 Q fun cv dx H' => W cv dx σ H') := by
    refine ⟨env, c, ec, re, rr, ?_⟩
    cases hms : ms env c.s with
    | ok ds s' =>
      unfold mCall at h
      rw [hms] at h
      intro vs c1 e1 s1 r1 q1
      refine ⟨by rw [← Paired.length q1]; exact hl _ _ _ _ hms, ds, c1, rfl, r1, q1, ?_⟩
      rw [e1]
      exact h.step s1
    | ex y fs s' => unfold mCall at h; rw [hms] at h; exact h
    | bad => unfold mCall at h; rw [hms] at h; exact h.elim
  refine PySem.W.callWith_K (h₀ := X.base) I.ok.mod.kin F3 (thn (ha.run pos pins s σ H _ I h') fun us s1 ⟨vs, H1, I1, rv, q⟩ => ⟨I1.kIn, ?_⟩) he hpl
  have lu : us.length = ps.length := by rw [← rv.length]; exact F1.len _ _ _ _ q
  have b := F4 s1 us I1.kIn (by rw [List.append_nil]; exact lu)
  rw [List.append_nil] at b
  refine wpAny_call (codeAny_mono (F1.run X.A X.stack s1 H1 ⟨us, []⟩ us vs Q _ hgd (hr.mono hj) I1.env0 b rv q) fun r s' hq => ?_)
  cases r with
  | error u => exact passAt tk σ pins H1 s1 u s' I1 hq
  | ok fl =>
    cases fl with
    | ret u => exact I1.after hq
    | next => exact hq.elim
    | brk => exact hq.elim
    | cont => exact hq.elim
end
/-- the law, called where nothing runs around it -/
theorem law_callG {P : Program} {w : World} {K : PySem.W.Frag} {mg mb : Str → Option Value} {k : Nat} {fa a : Addr} {fd : FuncData} {x : Str} {sp : Sp} {s1 : Shared} {vs : List Value} {ns : List Int} (KX : K.In s1.heap) (hns : s1.heap.Ns mainGlobals mg) (hb : s1.heap.Ns builtinsNs mb) (hbb : ∀ x : Str, x ≠ "__name__" → mb x = bootBuiltins x)
    (hlim : s1.heap.NoLimit) (hg : s1.gens = #[]) (ha : s1.heap.get? a = some { cls := .type "list", data := .seq vs.toArray }) (hi : IntsAre vs ns) (hl : ns.length ≤ sizeLine) (hr : Room k callerA)
    (F : ∀ base : Heap, K.In base → base.Ns mainGlobals mg → FnOkG P w K mg base k fa fd [x] sp) (hbind : ∀ (s : Shared) (u : Value), BindsTo s fd ⟨[u], []⟩ [(x, u)])
    (hsp : ∀ H : Hp, Only H → SqL K H a (ns.map V.int) → sp [.ref a] H (fun v _ => v = .bl true) fun _ _ _ => False) :
    codeAny (model P w) callerA (.call (.ref fa) ⟨[.ref a], []⟩) (fun r s' => r = .ok (.ret (.bool true)) ∧ OldK s1.heap s'.heap ∧ s'.os = s1.os ∧ AllBare s'.gens) s1 := by
  have rv := vals_ints hi
  have main : ∀ H : Hp, Only H → SqL K H a (ns.map V.int) → HOk P w H s1.heap → (∀ b u, H b = some u → b = a ∧ K.lookup a = none) →
      codeAny (model P w) callerA (.call (.ref fa) ⟨[.ref a], []⟩) (fun r s' => r = .ok (.ret (.bool true)) ∧ OldK s1.heap s'.heap ∧ s'.os = s1.os ∧ AllBare s'.gens) s1 := by
    intro H hO hS hok hA
    have ns_of : ∀ {b : Addr} {m : Str → Option Value}, s1.heap.Ns b m → (hidT s1.heap H).Ns b m := by
      rintro b m ⟨o, es, ep, e, d, z⟩
      refine ⟨o, es, ep, hidT_get e ?_, d, z⟩
      cases q : H b with
      | none => rfl
      | some u =>
        rw [(hA b u q).1, ha] at e
        cases e
        have d' : Data.seq vs.toArray _ = Data.dict es ep := d
        cases d'
    have KB : K.In (hidT s1.heap H) := fun b o e => hidT_get (KX b o e) (by
      cases q : H b with
      | none => rfl
      | some u =>
        obtain ⟨e1, e2⟩ := hA b u q
        rw [e1, e2] at e
        cases e)
    obtain ⟨mc, l1, l2⟩ := hlim
    have E0 : Env0 P w K mg (hidT s1.heap H) callerA [] s1 H := ⟨rfl, ⟨KB, ns_of hns, ⟨mb, ns_of hb, hbb⟩, ⟨mc, ns_of l1, l2⟩⟩, fun _ _ e => of_hidT e, Nat.le_of_eq (hidT_size _ _), trivial, (fun b hb => by cases hb), hok, .of_eq hg⟩
    refine codeAny_mono ((F _ KB (ns_of hns)).run callerA [] s1 H ⟨[.ref a], []⟩ [.ref a] [.ref a] _ _ rfl hr E0 (hbind s1 (.ref a)) (.cons rfl .nil) (hsp H hO hS)) fun r s' h => ?_
    cases r with
    | error e => exact (noCX (P := P) (w := w) (l := []) (H := H) (s := s1) h).elim
    | ok fl =>
      cases fl with
      | next => exact h.elim
      | brk => exact h.elim
      | cont => exact h.elim
      | ret u =>
        obtain ⟨v, H', os, bare, un, hok', r', q⟩ := h
        obtain rfl : v = .bl true := q
        obtain rfl : u = Value.bool true := r'
        refine ⟨rfl, OldK.of_keep fun b o e => ?_, os, bare⟩
        cases q : H b with
        | none => exact un.keep b o e q (fun z => by cases z) (by simp)
        | some u =>
          rcases hO b with z | ⟨ob, xs, z⟩
          · rw [q] at z; cases z
          · obtain ⟨y1, _⟩ := hok b _ z
            obtain ⟨y2, _⟩ := hok' b _ (un.frzs b ob _ z)
            rw [e] at y1; cases y1
            exact y2
  cases hk : K.lookup a with
  | some o =>
    have e := KX a o hk
    rw [ha] at e
    cases e
    have none_ : ∀ (b : Addr) (u : HO), (none : Option HO) = some u → False := fun b u z => nomatch z
    exact main (fun _ => none) (fun _ => .inl rfl) (.inr ⟨_, vs.toArray, _, hk, rfl, rfl, rfl, by rw [List.size_toArray, hi.length]; exact hl, by simpa using rv⟩) (fun b u z => (none_ b u z).elim) fun b u z => (none_ b u z).elim
  | none =>
    let H : Hp := fun b => if b = a then some (.frz { cls := .type "list", data := .seq vs.toArray } (.lst (ns.map V.int))) else none
    have Ha : H a = some (.frz { cls := .type "list", data := .seq vs.toArray } (.lst (ns.map V.int))) := if_pos rfl
    have Hb : ∀ b u, H b = some u → b = a := fun b u z => by
      by_cases e : b = a
      · exact e
      · have z' : (if b = a then some (HO.frz { cls := .type "list", data := .seq vs.toArray } (.lst (ns.map V.int))) else none) = some u := z
        rw [if_neg e] at z'
        cases z'
    refine main H (fun b => ?_) (.inl (.inr ⟨_, Ha⟩)) (fun b u z => ?_) fun b u z => ⟨Hb b u z, hk⟩
    · by_cases e : b = a
      · rw [e]; exact .inr ⟨_, _, Ha⟩
      · exact .inl (if_neg e)
    · obtain rfl := Hb b u z
      rw [Ha] at z
      cases z
      exact ⟨ha, by rw [List.length_map]; exact hl, vs, _, rv, ha⟩
theorem walk_ofG {l : PySem.W.OpenLaw} {n k : Nat} {q : Program} {loose : List Str} {XP : (Str → Option Value) → Heap → Prop} {YP : World → Heap → Prop} {d : DefRec} {x : Str} (hn : l.most = some n) (hn2 : n ≤ sizeLine) (hdf : d.params.defaults = []) (hr : Room k callerA)
    (F : ∀ (w : World) (mg : Str → Option Value) (fa : Addr) (h : Heap), YP w h → h.Ns mainGlobals mg → mg d.name = some (.ref fa) → ∃ (K : PySem.W.Frag) (fd : FuncData) (sp : Sp), K.In h ∧ (∀ (s : Shared) (u : Value), BindsTo s fd ⟨[u], []⟩ [(x, u)]) ∧
        (∀ (H : Hp) (a : Addr) (ns : List Int), ns.length ≤ n → Only H → SqL K H a (ns.map V.int) → sp [.ref a] H (fun v _ => v = .bl true) fun _ _ _ => False) ∧ ∀ base : Heap, K.In base → base.Ns mainGlobals mg → FnOkG l.prog w K mg base k fa fd [x] sp) :
    PySem.W.WalkO q loose XP YP l.row.toRowW d [] (fun f vs => PySem.call f vs) := by
  refine Att.attach_call hn hdf fun w s0 s1 mg mb fa o pm cd doc a vs ns G Y ho hd hcd hmg hobj hints hlen hg => ?_
  obtain ⟨K, fd, sp, KX, hb, hs, hF⟩ := F w mg fa _ Y G.T.g hmg
  exact law_callG KX G.T.g G.T.b G.T.builtins G.T.nolimit hg hobj hints (Nat.le_trans hlen hn2) hr hF hb fun H hO hS => hs H a ns hlen hO hS
theorem law_endG {P : Program} {w : World} {K : PySem.W.Frag} {mg : Str → Option Value} {h : Heap} {st : Stmt} {fa : Addr} {k n : Nat} {x : Str} {m : List D → S → R D} (X : K.In h) (hd : DefAt K mg "law" st) (hb : BindN "law" st [x]) (hf : mg "law" = some (.ref fa))
    (F : ∀ base f fd, FunD K "law" "law" (defArgs st) (defBody st) (defScope st) [] [] f fd → FnOkG P w K mg base k f fd [x] (spM ⟨K, mg⟩ 1 m))
    (lt : ∀ ns : List Int, ns.length ≤ n → ∃ s', m [.p (.list (ns.map .int))] ⟨[], []⟩ = .ok (.p (.bool true)) s') :
    ∃ (K : PySem.W.Frag) (fd : FuncData) (sp : Sp), K.In h ∧ (∀ (s : Shared) (u : Value), BindsTo s fd ⟨[u], []⟩ [(x, u)]) ∧
        (∀ (H : Hp) (a : Addr) (ns : List Int), ns.length ≤ n → Only H → SqL K H a (ns.map V.int) → sp [.ref a] H (fun v _ => v = .bl true) fun _ _ _ => False) ∧
        ∀ base : Heap, K.In base → base.Ns mainGlobals mg → FnOkG P w K mg base k fa fd [x] sp := by
  obtain ⟨f, fd, F1, hf1⟩ := hd
  rw [hf] at hf1
  cases hf1
  refine ⟨K, fd, fun vs H Q E => spM ⟨K, mg⟩ 1 m vs H Q E, X, fun s u => ?_, fun H a ns hl hO hS => ?_, fun base _ _ => F base _ _ F1⟩
  · exact FunD.bindsA F1 hb s [u] rfl
  · refine ⟨rfl, [.p (.list (ns.map .int))], ⟨⟨[], []⟩, [], [], H⟩, rfl, ?_, .cons ?_ .nil, ?_⟩
    · refine ⟨fun i y e => by simp at e, fun i y e => by simp at e, rfl, rfl, fun i j y z b e => by simp at e, fun i j y z b e => by simp at e, fun b e => ?_⟩
      obtain ⟨i, y, e, _⟩ := e
      simp at e
    · show RP K H (.list (ns.map .int)) (.ref a)
      simp only [RP]
      refine ⟨a, _, rfl, ?_, rps_ints ns⟩
      rcases hS with (e | ⟨o, e⟩) | e
      · rcases hO a with z | ⟨o, xs, z⟩
        · rw [z] at e; cases e
        · rw [z] at e; cases e
      · exact .inl ⟨o, e⟩
      · exact .inr e
    · obtain ⟨s', e⟩ := lt ns hl
      show Post _ _ _ _ (m [.p (.list (ns.map .int))] ⟨[], []⟩) _
      rw [e]
      exact fun v c' _ _ _ q => rd_bool q
end Mp

/-! MP, part S: what trimming keeps. -/
namespace Mp
open PySem PySem.Spec PyProof.Rows L2

theorem Mac.live_0 {m : Mac} (h : 0 ∈ m.live) : m.live.idxOf 0 = 0 := by
  have hs := Mac.live_srt (m := m)
  revert h hs
  cases m.live with
  | nil => intro h; cases h
  | cons a l =>
    intro h hs
    rcases List.mem_cons.mp h with e | e
    · rw [← e]; simp
    · have := (List.pairwise_cons.mp hs).1 0 e
      omega
theorem Mac.trim_pos {m : Mac} (h : 0 ∈ m.live) : m.trim = ⟨m.n, m.live.map fun q => (m.row q).keep m.live⟩ := by
  unfold Mac.trim
  rw [if_pos h]
theorem Mac.trim_neg {m : Mac} (h : 0 ∉ m.live) : m.trim = ⟨m.n, [⟨none, List.replicate m.n none⟩]⟩ := by
  unfold Mac.trim
  rw [if_neg h]
theorem Mac.trim_row {m : Mac} (h : 0 ∈ m.live) {i : Nat} (hi : i < m.live.length) : m.trim.row i = (m.row m.live[i]).keep m.live := by
  rw [Mac.trim_pos h]
  simp [Mac.row, hi]
theorem Mac.trim_rowq {m : Mac} (h : 0 ∈ m.live) {q : Nat} (hq : q ∈ m.live) : m.trim.row (m.live.idxOf q) = (m.row q).keep m.live := by
  have hi := List.idxOf_lt_length_of_mem hq
  rw [Mac.trim_row h hi, List.getElem_idxOf hi]
theorem MRow.keep_st {l : List Nat} {r : MRow} {c : Nat} : (r.keep l).st c = MSt.keep l (r.st c) := by
  unfold MRow.keep MRow.st
  rw [List.getElem?_map]
  cases r.ss[c]? <;> rfl
theorem Mac.read_rch {m : Mac} : ∀ {t : List Nat} {q f f' q' : Nat}, m.read q f t = (f', some q') → m.Rch q q'
  | [], q, f, f', q', e => by
    simp only [Mac.read, Prod.mk.injEq, Option.some.injEq] at e
    rw [e.2]
    exact .refl q'
  | c :: t, q, f, f', q', e => by
    unfold Mac.read at e
    split at e
    · simp at e
    · rename_i p hp
      exact (Mac.Rch.step (.refl q) (Mac.nx_st hp)).trans (Mac.read_rch e)
theorem Mac.lenF_coe {m : Mac} {q f : Nat} {t : List Nat} (h : m.lenF q f t ≠ none) : m.Coe q := by
  unfold Mac.lenF at h
  split at h
  · exact absurd rfl h
  · rename_i f' q' e
    refine ⟨q', Mac.read_rch e, fun z => ?_⟩
    rw [z] at h
    exact h rfl
theorem Mac.lenF_cons {m : Mac} {q f c : Nat} {t : List Nat} : m.lenF q f (c :: t) = match (m.row q).st c with
    | none => none
    | some p => m.lenF p.2 (f + p.1) t := by
  unfold Mac.lenF
  rw [Mac.read]
  cases (m.row q).st c <;> rfl
theorem Mac.trim_lenF {m : Mac} (hm : m.Ok) (h0 : 0 ∈ m.live) : ∀ {t : List Nat} {q f : Nat}, q ∈ m.live → m.trim.lenF (m.live.idxOf q) f t = m.lenF q f t
  | [], q, f, hq => by
    simp only [Mac.lenF, Mac.read, Mac.trim_rowq h0 hq]
    rfl
  | c :: t, q, f, hq => by
    rw [Mac.lenF_cons, Mac.lenF_cons, Mac.trim_rowq h0 hq, MRow.keep_st]
    cases hs : (m.row q).st c with
    | none => rfl
    | some p =>
      by_cases hp : p.2 ∈ m.live
      · simp only [MSt.keep, Option.bind_some, hp, if_true]
        exact Mac.trim_lenF hm h0 hp
      · simp only [MSt.keep, Option.bind_some, hp, if_false]
        cases hl : m.lenF p.2 (f + p.1) t with
        | none => rfl
        | some k =>
          exact absurd ((Mac.live_mem hm).mpr ⟨((Mac.live_mem hm).mp hq).1.step (Mac.nx_st hs), Mac.lenF_coe (by rw [hl]; simp)⟩) hp
theorem Mac.dead_lenF {n : Nat} {t : List Nat} {f : Nat} : (Mac.mk n [⟨none, List.replicate n none⟩]).lenF 0 f t = none := by
  cases t with
  | nil => rfl
  | cons c t =>
    rw [Mac.lenF_cons]
    have : ((Mac.mk n [⟨none, List.replicate n none⟩]).row 0).st c = none := by
      simp only [Mac.row, MRow.st, List.getElem?_cons_zero, Option.getD_some, List.getElem?_replicate]
      split <;> rfl
    rw [this]
theorem Mac.len_F {m : Mac} {t : List Nat} : m.len t = m.lenF 0 0 t := rfl
theorem Mac.trim_len {m : Mac} (hm : m.Ok) {t : List Nat} : m.trim.len t = m.len t := by
  rw [Mac.len_F, Mac.len_F]
  by_cases h0 : 0 ∈ m.live
  · have := Mac.trim_lenF hm h0 (t := t) (f := 0) h0
    rw [Mac.live_0 h0] at this
    exact this
  · rw [Mac.trim_neg h0, Mac.dead_lenF]
    cases hl : m.lenF 0 0 t with
    | none => rfl
    | some k => exact absurd ((Mac.live_mem hm).mpr ⟨.refl 0, Mac.lenF_coe (by rw [hl]; simp)⟩) h0
theorem Mac.trim_nx {m : Mac} (h0 : 0 ∈ m.live) {q r : Nat} (hq : q ∈ m.live) (hr : r ∈ m.live) (e : r ∈ m.nx q) : m.live.idxOf r ∈ m.trim.nx (m.live.idxOf q) := by
  unfold Mac.nx at e ⊢
  rw [Mac.trim_rowq h0 hq]
  obtain ⟨s, hs, e⟩ := List.mem_filterMap.mp e
  obtain ⟨p, rfl, rfl⟩ := Option.map_eq_some_iff.mp e
  refine List.mem_filterMap.mpr ⟨MSt.keep m.live (some p), List.mem_map.mpr ⟨_, hs, rfl⟩, ?_⟩
  simp only [MSt.keep, Option.bind_some, hr, if_true, Option.map_some]
theorem Mac.trim_rch {m : Mac} (hm : m.Ok) (h0 : 0 ∈ m.live) {q r : Nat} (hq : q ∈ m.live) (hr : m.Coe r) (k : m.Rch q r) : m.trim.Rch (m.live.idxOf q) (m.live.idxOf r) := by
  induction k with
  | refl => exact .refl _
  | @step p r' k1 e ih =>
    have hc : m.Coe p := by
      obtain ⟨z, k2, f⟩ := hr
      exact ⟨z, (Mac.Rch.step (.refl p) e).trans k2, f⟩
    have hp : p ∈ m.live := (Mac.live_mem hm).mpr ⟨((Mac.live_mem hm).mp hq).1.trans k1, hc⟩
    have hr' : r' ∈ m.live := (Mac.live_mem hm).mpr ⟨((Mac.live_mem hm).mp hq).1.trans (k1.step e), hr⟩
    exact (ih hc).step (Mac.trim_nx h0 hp hr' e)
theorem Mac.trim_all {m : Mac} (hm : m.Ok) (h0 : 0 ∈ m.live) {i : Nat} (hi : i < m.trim.rs.length) : m.trim.Rch 0 i ∧ m.trim.Coe i := by
  have hi' : i < m.live.length := by rw [Mac.trim_pos h0] at hi; simpa using hi
  have hq : m.live[i] ∈ m.live := List.getElem_mem hi'
  have ei : m.live.idxOf m.live[i] = i := List.Nodup.idxOf_getElem Mac.live_nd i hi'
  obtain ⟨k1, k2⟩ := (Mac.live_mem hm).mp hq
  constructor
  · have := Mac.trim_rch hm h0 h0 k2 k1
    rw [ei, Mac.live_0 h0] at this
    exact this
  · obtain ⟨r, k3, f⟩ := k2
    have hr : m.Coe r := ⟨r, .refl r, f⟩
    have hrl : r ∈ m.live := (Mac.live_mem hm).mpr ⟨k1.trans k3, hr⟩
    have := Mac.trim_rch hm h0 hq hr k3
    rw [ei] at this
    refine ⟨_, this, ?_⟩
    rw [Mac.trim_rowq h0 hrl]
    exact f
theorem MSt.keep_range {n : Nat} {s : MSt} (h : MSt.Ok n s) : MSt.keep (List.range n) s = s := by
  cases s with
  | none => rfl
  | some p =>
    have := (h p rfl).2
    have e : (List.range n).idxOf p.2 = p.2 := by
      have hl : p.2 < (List.range n).length := by simpa using this
      have := List.Nodup.idxOf_getElem (List.nodup_range (n := n)) p.2 hl
      simpa using this
    simp only [MSt.keep, Option.bind_some, List.mem_range, this, if_true, e]
theorem Mac.trim_trim {m : Mac} (hm : m.Ok) : m.trim.trim = m.trim := by
  have ht := Mac.trim_ok hm
  by_cases h0 : 0 ∈ m.live
  · have hl : m.trim.live = List.range m.trim.rs.length := by
      unfold Mac.live
      rw [List.filter_eq_self]
      intro q hq
      simpa using Mac.trim_all hm h0 (List.mem_range.mp hq)
    have hr := ht.r1
    have h0' : 0 ∈ m.trim.live := by rw [hl]; exact List.mem_range.mpr (by omega)
    rw [Mac.trim_pos h0', hl]
    have e : (List.range m.trim.rs.length).map (fun q => (m.trim.row q).keep (List.range m.trim.rs.length)) = m.trim.rs := by
      apply List.ext_getElem
      · simp
      · intro i h1 h2
        simp only [List.getElem_map, List.getElem_range]
        have hrow := ht.row h2
        rw [← Mac.row_eq h2] at hrow ⊢
        generalize m.trim.rs[i] = r at hrow
        obtain ⟨fi, ss⟩ := r
        unfold MRow.keep
        congr 1
        have : ss.map (MSt.keep (List.range m.trim.rs.length)) = ss.map id := List.map_congr_left fun s hs => MSt.keep_range (hrow.ss s hs)
        simpa using this
    rw [e]
  · have e := Mac.trim_neg h0
    have hn : 0 ∉ m.trim.live := by
      intro z
      obtain ⟨r, k, f⟩ := ((Mac.live_mem ht).mp z).2
      have : r < m.trim.rs.length := k.lt ht (by have := ht.r1; omega)
      rw [e] at this f
      have hr : r = 0 := by simpa using this
      subst hr
      exact f rfl
    rw [Mac.trim_neg hn, Mac.trim_n, ← e]
/-! ### ways -/
theorem Mac.read_way {m : Mac} : ∀ {t u : List Nat} {q f f' q' : Nat}, m.read q f t = (f', some q') → m.read q f (t ++ u) = m.read q' f' u := fun {t u q f f' q'} e => by
  rw [Mac.read_app, e]
end Mp

/-! MP, part T: how long the repr of data is. -/
namespace Mp
open PySem PySem.Spec PyProof.Rows L2
/-- ints below 10 ^ k, at most d deep, at most W signs -/
def WbF (k W : Nat) (x : PyData) : Prop := (x = .none ∧ 4 ≤ W) ∨ (∃ b, x = .bool b ∧ 5 ≤ W) ∨ (∃ i : Int, x = .int i ∧ i.natAbs < 10 ^ k ∧ k + 1 ≤ W) ∨ ∃ z : Str, x = .str z ∧ (∀ c ∈ z.cps.toList, c < 16 ^ 8) ∧ 10 * z.length + 2 ≤ W
def Wb (k : Nat) : Nat → Nat → PyData → Prop
  | 0, W, x => WbF k W x
  | d + 1, W, x => WbF k W x ∨ (∃ xs ws, (x = .tuple xs ∨ x = .list xs) ∧ Paired (fun y w => Wb k d w y) xs ws ∧ ws.sum + 2 * ws.length + 4 ≤ W) ∨ ∃ y w, x = .dict [(.str "a", y), (.int 1, .none)] ∧ Wb k d w y ∧ w + 40 ≤ W
theorem WbF.up {k W W' : Nat} {x : PyData} (h : WbF k W x) (hw : W ≤ W') : WbF k W' x := by
  rcases h with ⟨e, h⟩ | ⟨b, e, h⟩ | ⟨i, e, h1, h⟩ | ⟨z, e, h1, h⟩
  · exact .inl ⟨e, by omega⟩
  · exact .inr (.inl ⟨b, e, by omega⟩)
  · exact .inr (.inr (.inl ⟨i, e, h1, by omega⟩))
  · exact .inr (.inr (.inr ⟨z, e, h1, by omega⟩))
theorem Wb.up {k : Nat} : ∀ {d W W' : Nat} {x : PyData}, Wb k d W x → W ≤ W' → Wb k d W' x
  | 0, _, _, _, h, hw => WbF.up h hw
  | d + 1, _, _, _, h, hw => by
    rcases h with h | ⟨xs, ws, e, p, h⟩ | ⟨y, w, e, p, h⟩
    · exact .inl (h.up hw)
    · exact .inr (.inl ⟨xs, ws, e, p, by omega⟩)
    · exact .inr (.inr ⟨y, w, e, p, by omega⟩)
theorem Wb.deep {k : Nat} : ∀ {d W : Nat} {x : PyData}, Wb k d W x → Wb k (d + 1) W x
  | 0, _, _, h => .inl h
  | d + 1, _, _, h => by
    rcases h with h | ⟨xs, ws, e, p, h⟩ | ⟨y, w, e, p, h⟩
    · exact .inl h
    · exact .inr (.inl ⟨xs, ws, e, Paired.mapP p fun _ _ z => Wb.deep z, h⟩)
    · exact .inr (.inr ⟨y, w, e, Wb.deep p, h⟩)
theorem Wb.flat {k : Nat} : ∀ {d W : Nat} {x : PyData}, WbF k W x → Wb k d W x
  | 0, _, _, h => h
  | d + 1, _, _, h => .inl h
theorem wide_list {ts : List Str} : (listText ts).length ≤ piled ts + 4 := by
  unfold listText
  rw [strLen_append]
  have e2 : ("]" : Str).length = 1 := rfl
  have e1 : ("[" : Str).length = 1 := rfl
  cases ts with
  | nil => show (("[" : Str)).length + _ ≤ _; omega
  | cons t ts =>
    show (textFrom 1 (("[" : Str) ++ (if 0 > 0 then ", " else "" : String) ++ t) ts).length + _ ≤ _
    rw [textFrom_length_pos ts 1 _ (by omega), piled_cons, strLen_append, strLen_append]
    have e3 : (Str.ofString (if 0 > 0 then ", " else "" : String)).length = 0 := rfl
    omega
theorem wide_join {ts : List Str} : (Str.join ", " ts).length ≤ piled ts := by
  by_cases h : ts = []
  · subst h; exact Nat.le_refl _
  · have := join_length_add ts h
    omega
theorem wide_tuple {ts : List Str} : (tupleText ts).length ≤ piled ts + 4 := by
  unfold tupleText
  rw [strLen_append, strLen_append]
  have e1 : ("(" : Str).length = 1 := rfl
  have e2 : (Str.ofString (if ts.length == 1 then ",)" else ")" : String)).length ≤ 2 := by split <;> decide
  have := wide_join (ts := ts)
  omega
theorem showable_int {k : Nat} (hk : k ≤ 500) {i : Int} (h : i.natAbs < 10 ^ k) : (PyData.int i).showable = true := by
  simp only [PyData.showable, decide_eq_true_eq]
  by_cases z : i.natAbs = 0
  · rw [z]; decide
  · rw [Nat.log2_lt z]
    refine Nat.lt_of_lt_of_le h (Nat.le_trans (Nat.pow_le_pow_right (by decide) hk) ?_)
    exact Nat.le_of_ble_eq_true (by decide +kernel)
theorem Wb.shown {k : Nat} (hk : k ≤ 500) (h0 : 0 < k) : ∀ {d W : Nat} {x : PyData}, Wb k d W x → x.showable = true ∧ x.depth ≤ 2 * d ∧ x.shown.length ≤ W := by
  have flat : ∀ {W : Nat} {x : PyData}, WbF k W x → x.showable = true ∧ x.depth = 0 ∧ x.shown.length ≤ W := by
    rintro W x (⟨rfl, h⟩ | ⟨b, rfl, h⟩ | ⟨i, rfl, h1, h⟩ | ⟨z, rfl, h1, h⟩)
    · exact ⟨by simp [PyData.showable], by simp [PyData.depth], by simp only [PyData.shown]; exact h⟩
    · refine ⟨by simp [PyData.showable], by simp [PyData.depth], ?_⟩
      simp only [PyData.shown]
      cases b
      · exact h
      · exact Nat.le_trans (by decide) h
    · refine ⟨showable_int hk h1, by simp [PyData.depth], ?_⟩
      simp only [PyData.shown]
      have := int_text_length_le10 h0 h1
      show (Str.ofString (toString i)).length ≤ W
      rw [PySem.ofString_length]
      omega
    · refine ⟨by simp [PyData.showable], by simp [PyData.depth], ?_⟩
      simp only [PyData.shown]
      exact Nat.le_trans (StrLaws.reprText_len z h1) h
  intro d
  induction d with
  | zero =>
    intro W x h
    obtain ⟨h1, h2, h3⟩ := flat h
    exact ⟨h1, by omega, h3⟩
  | succ d ih =>
    intro W x h
    rcases h with h | ⟨xs, ws, e, p, h⟩ | ⟨y, w, rfl, p, h⟩
    · obtain ⟨h1, h2, h3⟩ := flat h
      exact ⟨h1, by omega, h3⟩
    · have key : PyData.showableAll xs = true ∧ PyData.depthAll xs ≤ 2 * d ∧ piled (PyData.shownAll xs) ≤ ws.sum + 2 * ws.length := by
        clear e h
        induction p with
        | nil => exact ⟨rfl, by simp [PyData.depthAll], by simp [PyData.shownAll, piled]⟩
        | @cons y w ys us q t ih2 =>
          obtain ⟨a1, a2, a3⟩ := ih q
          obtain ⟨b1, b2, b3⟩ := ih2
          refine ⟨by simp [PyData.showableAll, a1, b1], by simp only [PyData.depthAll]; omega, ?_⟩
          simp only [PyData.shownAll, piled_cons, List.sum_cons, List.length_cons]
          omega
      obtain ⟨a1, a2, a3⟩ := key
      rcases e with rfl | rfl
      · refine ⟨by simp [PyData.showable, a1], by simp only [PyData.depth]; omega, ?_⟩
        simp only [PyData.shown]
        exact Nat.le_trans wide_tuple (by omega)
      · refine ⟨by simp [PyData.showable, a1], by simp only [PyData.depth]; omega, ?_⟩
        simp only [PyData.shown]
        exact Nat.le_trans wide_list (by omega)
    · obtain ⟨a1, a2, a3⟩ := ih p
      refine ⟨?_, ?_, ?_⟩
      · have e1 : (PyData.int 1).showable = true := showable_int (k := 1) (by omega) (by decide)
        simp only [PyData.showable, PyData.showableKv, a1, Bool.true_and, Bool.and_true]
        exact e1
      · simp only [PyData.depth, PyData.depthKv]
        omega
      · have e : (PyData.dict [(.str "a", y), (.int 1, .none)]).shown = dictText [(reprText "a") ++ ": " ++ y.shown, ("1" : Str) ++ ": " ++ ("None" : Str)] := by
          simp only [PyData.shown, PyData.shownKv]
          rfl
        rw [e]
        unfold dictText
        rw [strLen_append, strLen_append]
        have e1 : (reprText "a").length = 3 := by decide +kernel
        have h3 := wide_join (ts := [(reprText "a") ++ ": " ++ y.shown, ("1" : Str) ++ ": " ++ ("None" : Str)])
        simp only [piled_cons, piled_nil, strLen_append, e1] at h3
        have e2 : (": " : Str).length = 2 := rfl
        have e3 : ("1" : Str).length = 1 := rfl
        have e4 : ("None" : Str).length = 4 := rfl
        have e5 : ("{" : Str).length = 1 := rfl
        have e6 : ("}" : Str).length = 1 := rfl
        omega
theorem Wb.repr {k d W : Nat} {x : PyData} (h : Wb k d W x) (hk : k ≤ 500) (h0 : 0 < k) (hd : d ≤ 30) (hW : W ≤ 16777216) : reprOk x = true := by
  obtain ⟨h1, h2, h3⟩ := Wb.shown hk h0 h
  have e := sizeLine_eq
  simp only [reprOk, h1, Bool.true_and, Bool.and_eq_true, decide_eq_true_eq]
  exact ⟨by omega, by omega⟩
/-- every item has the same bound -/
theorem Wb.tuple {k d w : Nat} {xs : List PyData} (h : ∀ x ∈ xs, Wb k d w x) {W : Nat} (hW : xs.length * w + 2 * xs.length + 4 ≤ W) : Wb k (d + 1) W (.tuple xs) := by
  refine .inr (.inl ⟨xs, List.replicate xs.length w, .inl rfl, ?_, by simp; exact hW⟩)
  clear hW
  induction xs with
  | nil => exact .nil
  | cons x xs ih =>
    rw [List.length_cons, List.replicate_succ]
    exact .cons (h x List.mem_cons_self) (ih fun y hy => h y (List.mem_cons_of_mem _ hy))
theorem Wb.nat {k d i : Nat} (h : i < 10 ^ k) : Wb k d (k + 1) (.int (i : Int)) := Wb.flat (.inr (.inr (.inl ⟨_, rfl, by simpa using h, Nat.le_refl _⟩)))
theorem Wb.none {k d W : Nat} (h : 4 ≤ W) : Wb k d W .none := Wb.flat (.inl ⟨rfl, h⟩)
theorem wb_eO {o : Option Nat} (h : ∀ q, o = some q → q < 1000) {d : Nat} : Wb 3 d 4 (eO o) := by
  cases o with
  | none => exact Wb.none (by omega)
  | some q => exact Wb.nat (h q rfl)
theorem wb_eM {m : Mac} (hm : m.Ok) : Wb 3 5 5000 (eM m) := by
  have h8 := hm.n8
  have h30 := hm.r30
  have hst : ∀ s : MSt, MSt.Ok m.rs.length s → Wb 3 1 16 (eS s) := by
    intro s hs
    cases s with
    | none => exact Wb.none (by omega)
    | some p =>
      have := hs p rfl
      refine Wb.tuple (w := 4) ?_ (by simp)
      simp only [List.mem_cons, List.not_mem_nil, or_false, forall_eq_or_imp, forall_eq]
      exact ⟨Wb.nat (by omega), Wb.nat (by omega)⟩
  have hrow : ∀ r ∈ m.rs.map eR, Wb 3 3 162 r := by
    intro x hx
    obtain ⟨r, hr, rfl⟩ := List.mem_map.mp hx
    have ok := hm.rs r hr
    refine .inr (.inl ⟨[eO r.fin, .tuple (r.ss.map eS)], [4, 148], .inl rfl, .cons (wb_eO fun q e => ?_) (.cons ?_ .nil), by simp⟩)
    · have := ok.fin q e; omega
    · refine Wb.tuple (w := 16) (fun y hy => ?_) ?_
      · obtain ⟨s, hs, rfl⟩ := List.mem_map.mp hy
        exact hst s (ok.ss s hs)
      · have := ok.len
        simp
        omega
  refine .inr (.inl ⟨[.int (m.n : Int), .tuple (m.rs.map eR)], [4, 4924], .inl rfl, .cons (Wb.nat (by omega)) (.cons (Wb.tuple hrow ?_) .nil), by simp⟩)
  simp
  omega
theorem repr_eM {m : Mac} (hm : m.Ok) {s : S} : fRepr [.p (eM m)] s = .ok (.p (.str (eM m).shown)) s := by
  show (if reprOk (eM m) = true then R.ok (D.p (.str (eM m).shown)) s else .bad) = _
  rw [if_pos (Wb.repr (wb_eM hm) (by omega) (by omega) (by omega) (by omega))]
end Mp

/-! MP, part U: dicts from numbers to data. -/
namespace Mp
open PySem PySem.Spec PyProof.Rows L2
def eKv (W : List (Nat × PyData)) : List (L2.Key × D) := W.map fun p => (.inl (p.1 : Int), .p p.2)
theorem kv_none {W : List (Nat × PyData)} {q : Nat} (h : q ∉ W.map (·.1)) : getK (eKv W) (.inl (q : Int)) = none := by
  unfold getK eKv
  rw [Option.map_eq_none_iff, List.find?_eq_none]
  intro x hx
  obtain ⟨p, hp, rfl⟩ := List.mem_map.mp hx
  simp only [decide_eq_true_eq]
  intro e
  injection e with e
  exact h (List.mem_map.mpr ⟨p, hp, Int.ofNat_inj.mp e⟩)
theorem kv_get : ∀ {W : List (Nat × PyData)} {q : Nat} {x : PyData}, (W.map (·.1)).Nodup → (q, x) ∈ W → getK (eKv W) (.inl (q : Int)) = some (.p x)
  | p :: W, q, x, nd, h => by
    simp only [List.map_cons, List.nodup_cons] at nd
    unfold getK eKv
    rw [List.map_cons, List.find?_cons]
    by_cases e : p.1 = q
    · simp only [e, decide_true]
      rcases List.mem_cons.mp h with h | h
      · rw [← h]; rfl
      · exact absurd (List.mem_map.mpr ⟨_, h, e.symm⟩) nd.1
    · have e' : ¬ ((Sum.inl (p.1 : Int) : L2.Key) = Sum.inl (q : Int)) := fun z => e (by injection z with z; omega)
      simp only [e', decide_false]
      rcases List.mem_cons.mp h with h | h
      · rw [← h] at e; exact absurd rfl e
      · exact kv_get nd.2 h
theorem kv_set {W : List (Nat × PyData)} {q : Nat} {x : PyData} (h : q ∉ W.map (·.1)) : setK (eKv W) (.inl (q : Int)) (.p x) = eKv (W ++ [(q, x)]) := by
  unfold setK
  rw [if_neg]
  · simp [eKv]
  · intro z
    obtain ⟨y, hy, e⟩ := List.any_eq_true.mp z
    obtain ⟨p, hp, rfl⟩ := List.mem_map.mp hy
    have e' : (Sum.inl (p.1 : Int) : L2.Key) = Sum.inl (q : Int) := by simpa using e
    injection e' with e'
    exact h (List.mem_map.mpr ⟨p, hp, Int.ofNat_inj.mp e'⟩)
@[simp] theorem eKv_len {W : List (Nat × PyData)} : (eKv W).length = W.length := by simp [eKv]
theorem notin_kv {W : List (Nat × PyData)} {q i : Nat} {s : S} (e : s.g[i]? = some (some (.dct (eKv W)))) (nd : (W.map (·.1)).Nodup) : dNotIn (.p (.int (q : Int))) (.ref i) s = .ok (.p (.bool (!decide (q ∈ W.map (·.1))))) s := by
  by_cases h : q ∈ W.map (·.1)
  · obtain ⟨p, hp, rfl⟩ := List.mem_map.mp h
    have := kv_get nd (show (p.1, p.2) ∈ W from hp)
    have hd : decide (p.1 ∈ W.map (·.1)) = true := decide_eq_true h
    rw [hd]
    simp only [dNotIn, inB, lstP, keyOf, this, dictV, e, Option.map_some, Option.isSome_some]
  · have hd : decide (q ∈ W.map (·.1)) = false := decide_eq_false h
    rw [hd]
    simp only [dNotIn, inB, lstP, keyOf, kv_none h, dictV, e, Option.map_some, Option.isSome_none]
theorem ix_kv {W : List (Nat × PyData)} {q i : Nat} {x : PyData} {s : S} (e : s.g[i]? = some (some (.dct (eKv W)))) (nd : (W.map (·.1)).Nodup) (h : (q, x) ∈ W) : dIxD (.ref i) (.p (.int (q : Int))) s = .ok (.p x) s := by
  simp only [dIxD, dictV, e, keyOf, Option.bind_some, kv_get nd h]
/-! ### == with itself -/
mutual
theorem eqv_self : ∀ x : PyData, x.canLay0 = true → PyData.eqv x x = true
  | .none, _ => rfl
  | .bool b, _ => by simp [PyData.eqv]
  | .int i, _ => by simp [PyData.eqv]
  | .str z, _ => by simp [PyData.eqv]
  | .list xs, h => by simp only [PyData.eqv]; exact eqvAll_self xs (by simpa [PyData.canLay0] using h)
  | .tuple xs, h => by simp only [PyData.eqv]; exact eqvAll_self xs (by simpa [PyData.canLay0] using h)
  | .dict _, h => by simp [PyData.canLay0] at h
theorem eqvAll_self : ∀ xs : List PyData, PyData.canLayAll0 xs = true → PyData.eqvAll xs xs = true
  | [], _ => rfl
  | x :: xs, h => by
    have h2 : x.canLay0 = true ∧ PyData.canLayAll0 xs = true := by simpa [PyData.canLayAll0] using h
    simp only [PyData.eqvAll, eqv_self x h2.1, eqvAll_self xs h2.2, Bool.and_self]
end
theorem iEq_self {x : PyData} (h : SeqAt.shaped x = true) : iEq x x = some (.bool true) := by
  simp only [iEq, h, Bool.and_self, if_true, eqv_self x (shaped_can h)]
theorem iNe_self {x : PyData} (h : SeqAt.shaped x = true) : iNe x x = some (.bool false) := by
  simp only [iNe, h, Bool.and_self, if_true, eqv_self x (shaped_can h), Bool.not_true]
theorem iEq_str {x : Str} : iEq (.str x) (.str x) = some (.bool true) := by
  unfold iEq iEqS
  split <;> simp [PyData.eqv]
theorem iNe_str {x : Str} : iNe (.str x) (.str x) = some (.bool false) := by
  unfold iNe iNeS
  split <;> simp [PyData.eqv]
theorem canLay_map {α : Type} {f : α → PyData} : ∀ {l : List α}, (∀ x ∈ l, (f x).canLay0 = true) → PyData.canLayAll0 (l.map f) = true
  | [], _ => rfl
  | x :: l, h => by simp only [List.map_cons, PyData.canLayAll0, h x List.mem_cons_self, canLay_map fun y hy => h y (List.mem_cons_of_mem _ hy), Bool.and_self]
theorem canLay_eO {o : Option Nat} : (eO o).canLay0 = true := by cases o <;> rfl
theorem canLay_eM {m : Mac} : (eM m).canLay0 = true := by
  have h1 : ∀ s : MSt, (eS s).canLay0 = true := fun s => by cases s <;> rfl
  have h2 : ∀ r : MRow, (eR r).canLay0 = true := fun r => by
    simp only [eR, PyData.canLay0, PyData.canLayAll0, canLay_eO, canLay_map fun s _ => h1 s, Bool.and_self]
  simp only [eM, PyData.canLay0, PyData.canLayAll0, canLay_map fun r _ => h2 r, Bool.and_self]
theorem shaped_eM {m : Mac} (hm : m.Ok) : SeqAt.shaped (eM m) = true := by
  have := (Wb.shown (by omega) (by omega) (wb_eM hm)).2.1
  simp only [SeqAt.shaped, canLay_eM, Bool.true_and, decide_eq_true_eq]
  exact Nat.le_trans this (by decide)
theorem shaped_tagM {m : Mac} (hm : m.Ok) {x : Str} (hx : PyData.strOk x = true) : SeqAt.shaped (.tuple [.str x, eM m]) = true := by
  have := (Wb.shown (by omega) (by omega) (wb_eM hm)).2.1
  simp only [SeqAt.shaped, PyData.canLay0, PyData.canLayAll0, hx, canLay_eM, Bool.and_self, Bool.true_and, PyData.depth, PyData.depthAll]
  refine decide_eq_true ?_
  show max 0 (max (eM m).depth 0) + 1 ≤ 64
  have h1 : max 0 (max (eM m).depth 0) ≤ 10 := Nat.max_le.mpr ⟨by decide, Nat.max_le.mpr ⟨this, by decide⟩⟩
  exact Nat.le_trans (Nat.succ_le_succ h1) (by decide)
end Mp

/-! MP, part V: data that a law spoils: texts, numbers, tuples, lists and one kind of dict; how wide its repr is, how many nodes it has. -/
namespace Mp
open PySem PySem.Spec PyProof.Rows L2
def chOk (z : Str) : Prop := ∀ c ∈ z.cps.toList, c < 16 ^ 8
theorem chOk_app {x y : Str} (h1 : chOk x) (h2 : chOk y) : chOk (x ++ y) := by
  intro c hc
  have e : (x ++ y).cps = x.cps ++ y.cps := rfl
  rw [e, Array.toList_append, List.mem_append] at hc
  exact hc.elim (h1 c) (h2 c)
theorem chOk_cut {x : Str} {lo hi : Option Int} (h : chOk x) : chOk (cutS x lo hi) := by
  intro c hc
  unfold cutS at hc
  exact h c (List.mem_of_mem_drop (List.mem_of_mem_take hc))
theorem len_cutS {x : Str} {lo hi : Option Int} : (cutS x lo hi).length ≤ x.length := by
  show (List.toArray _).size ≤ x.cps.size
  rw [List.size_toArray, List.length_take, List.length_drop]
  have : x.cps.toList.length = x.cps.size := by simp
  omega
def SdF (c : Nat) (x : PyData) : Prop := x = .none ∨ (∃ b, x = .bool b) ∨ (∃ i : Int, x = .int i ∧ i.natAbs ≤ 10 ^ 29 + c) ∨ ∃ z : Str, x = .str z ∧ chOk z
def Sd (A c : Nat) : Nat → PyData → Prop
  | 0, x => SdF c x
  | d + 1, x => SdF c x ∨ (∃ xs, (x = .tuple xs ∨ x = .list xs) ∧ xs.length ≤ A ∧ ∀ y ∈ xs, Sd A c d y) ∨ ∃ y, x = .dict [(.str "a", y), (.int 1, .none)] ∧ Sd A c d y
mutual
def wt : PyData → Nat
  | .none => 4
  | .bool _ => 5
  | .int _ => 32
  | .str z => 10 * z.length + 2
  | .list xs => wts xs + 4
  | .tuple xs => wts xs + 4
  | .dict ps => wtp ps + 40
def wts : List PyData → Nat
  | [] => 0
  | x :: xs => wt x + 2 + wts xs
def wtp : List (PyData × PyData) → Nat
  | [] => 0
  | (_, y) :: ps => wt y + wtp ps
end
mutual
def nd : PyData → Nat
  | .tuple xs => 1 + nda xs
  | .none => 1
  | .bool _ => 1
  | .int _ => 1
  | .str _ => 1
  | .list _ => 1
  | .dict _ => 1
def nda : List PyData → Nat
  | [] => 0
  | x :: xs => nd x + nda xs
end
theorem nd_pos (x : PyData) : 1 ≤ nd x := by cases x <;> simp only [nd] <;> omega
mutual
theorem nd_le : ∀ x : PyData, nd x ≤ wt x
  | .none => by simp only [nd, wt]; omega
  | .bool _ => by simp only [nd, wt]; omega
  | .int _ => by simp only [nd, wt]; omega
  | .str _ => by simp only [nd, wt]; omega
  | .list _ => by simp only [nd, wt]; omega
  | .dict _ => by simp only [nd, wt]; omega
  | .tuple xs => by
    have := nda_le xs
    simp only [nd, wt]
    omega
theorem nda_le : ∀ xs : List PyData, nda xs ≤ wts xs
  | [] => Nat.le_refl _
  | x :: xs => by
    have h1 := nd_le x
    have h2 := nda_le xs
    simp only [nda, wts]
    omega
end
theorem nda_sum : ∀ xs : List PyData, nda xs = (xs.map nd).sum
  | [] => rfl
  | x :: xs => by simp only [nda, List.map_cons, List.sum_cons, nda_sum xs]
theorem wts_sum : ∀ xs : List PyData, wts xs = (xs.map wt).sum + 2 * (xs.map wt).length
  | [] => rfl
  | x :: xs => by
    have := wts_sum xs
    simp only [wts, List.map_cons, List.sum_cons, List.length_cons]
    omega
theorem wts_app : ∀ xs ys : List PyData, wts (xs ++ ys) = wts xs + wts ys
  | [], ys => by simp only [List.nil_append, wts]; omega
  | x :: xs, ys => by
    have := wts_app xs ys
    simp only [List.cons_append, wts]
    omega
theorem wts_len : ∀ xs : List PyData, 2 * xs.length ≤ wts xs
  | [] => Nat.zero_le _
  | x :: xs => by
    have := wts_len xs
    simp only [List.length_cons, wts]
    omega
theorem wts_sub : ∀ {xs ys : List PyData}, xs.Sublist ys → wts xs ≤ wts ys
  | _, _, .slnil => Nat.le_refl _
  | _, _, .cons y h => by
    have := wts_sub h
    simp only [wts]
    omega
  | _, _, .cons_cons y h => by
    have := wts_sub h
    simp only [wts]
    omega
theorem cutL_subl {α : Type} {xs : List α} {lo hi : Option Int} : (cutL xs lo hi).Sublist xs := (List.take_sublist _ _).trans (List.drop_sublist _ _)
theorem wts_mem {x : PyData} : ∀ {xs : List PyData}, x ∈ xs → wt x + 2 ≤ wts xs
  | y :: xs, h => by
    rcases List.mem_cons.mp h with rfl | h
    · simp only [wts]; omega
    · have := wts_mem h
      simp only [wts]; omega
theorem wts_all {w : Nat} : ∀ {xs : List PyData}, (∀ x ∈ xs, wt x ≤ w) → wts xs ≤ xs.length * (w + 2)
  | [], _ => Nat.zero_le _
  | x :: xs, h => by
    have h1 := h x List.mem_cons_self
    have h2 := wts_all fun y hy => h y (List.mem_cons_of_mem _ hy)
    simp only [wts, List.length_cons, Nat.succ_mul]
    omega
theorem wts_map {α : Type} {f : α → PyData} {w : Nat} {l : List α} (h : ∀ a ∈ l, wt (f a) ≤ w) : wts (l.map f) ≤ l.length * (w + 2) := by
  have := wts_all (xs := l.map f) (w := w) fun x hx => by
    obtain ⟨a, ha, rfl⟩ := List.mem_map.mp hx
    exact h a ha
  rwa [List.length_map] at this
theorem SdF.up {c c' : Nat} {x : PyData} (h : SdF c x) (hc : c ≤ c') : SdF c' x := by
  rcases h with h | h | ⟨i, e, h⟩ | h
  · exact .inl h
  · exact .inr (.inl h)
  · exact .inr (.inr (.inl ⟨i, e, by omega⟩))
  · exact .inr (.inr (.inr h))
theorem Sd.flat {A c d : Nat} {x : PyData} (h : SdF c x) : Sd A c d x := by
  cases d with
  | zero => exact h
  | succ d => exact .inl h
theorem Sd.up {A A' c c' : Nat} (hA : A ≤ A') (hc : c ≤ c') : ∀ {d d' : Nat} {x : PyData}, d ≤ d' → Sd A c d x → Sd A' c' d' x
  | 0, d', x, _, h => Sd.flat (SdF.up h hc)
  | d + 1, 0, x, hd, h => absurd hd (by omega)
  | d + 1, d' + 1, x, hd, h => by
    rcases h with h | ⟨xs, e, hl, h⟩ | ⟨y, e, h⟩
    · exact .inl (h.up hc)
    · exact .inr (.inl ⟨xs, e, by omega, fun y hy => Sd.up hA hc (by omega) (h y hy)⟩)
    · exact .inr (.inr ⟨y, e, Sd.up hA hc (by omega) h⟩)
theorem sdF_wb {c : Nat} (hc : c ≤ 10 ^ 29) {x : PyData} (h : SdF c x) : WbF 31 (wt x) x := by
  rcases h with rfl | ⟨b, rfl⟩ | ⟨i, rfl, h⟩ | ⟨z, rfl, h⟩
  · exact .inl ⟨rfl, Nat.le_refl _⟩
  · exact .inr (.inl ⟨b, rfl, Nat.le_refl _⟩)
  · exact .inr (.inr (.inl ⟨i, rfl, by omega, Nat.le_refl _⟩))
  · exact .inr (.inr (.inr ⟨z, rfl, h, Nat.le_refl _⟩))
theorem paired_wt {k d : Nat} : ∀ {xs : List PyData}, (∀ y ∈ xs, Wb k d (wt y) y) → Paired (fun y w => Wb k d w y) xs (xs.map wt)
  | [], _ => .nil
  | x :: xs, h => .cons (h x List.mem_cons_self) (paired_wt fun y hy => h y (List.mem_cons_of_mem _ hy))
theorem sd_wb {A c : Nat} (hc : c ≤ 10 ^ 29) : ∀ {d : Nat} {x : PyData}, Sd A c d x → Wb 31 d (wt x) x
  | 0, x, h => sdF_wb hc h
  | d + 1, x, h => by
    rcases h with h | ⟨xs, e, hl, h⟩ | ⟨y, rfl, h⟩
    · exact .inl (sdF_wb hc h)
    · have hw := wts_sum xs
      refine .inr (.inl ⟨xs, xs.map wt, e, paired_wt fun y hy => sd_wb hc (h y hy), ?_⟩)
      rcases e with rfl | rfl <;> simp only [wt] <;> omega
    · refine .inr (.inr ⟨y, wt y, rfl, sd_wb hc h, ?_⟩)
      simp only [wt, wtp]
      omega
theorem sd_repr {A c d : Nat} {x : PyData} (h : Sd A c d x) (hc : c ≤ 10 ^ 29) (hd : d ≤ 30) (hw : wt x ≤ 16777216) {s : S} : fRepr [.p x] s = .ok (.p (.str x.shown)) s := by
  show (if reprOk x = true then R.ok (D.p (.str x.shown)) s else .bad) = _
  rw [if_pos (Wb.repr (sd_wb hc h) (by omega) (by omega) hd hw)]
theorem Sd.int {A c d : Nat} {i : Int} (h : i.natAbs ≤ 10 ^ 29 + c) : Sd A c d (.int i) := Sd.flat (.inr (.inr (.inl ⟨i, rfl, h⟩)))
theorem Sd.nat {A c d i : Nat} (h : i ≤ 10 ^ 29) : Sd A c d (.int (i : Int)) := Sd.int (by omega)
theorem Sd.none {A c d : Nat} : Sd A c d .none := Sd.flat (.inl rfl)
theorem Sd.bool {A c d : Nat} {b : Bool} : Sd A c d (.bool b) := Sd.flat (.inr (.inl ⟨b, rfl⟩))
theorem Sd.str {A c d : Nat} {z : Str} (h : chOk z) : Sd A c d (.str z) := Sd.flat (.inr (.inr (.inr ⟨z, rfl, h⟩)))
theorem Sd.tuple {A c d : Nat} {xs : List PyData} (hl : xs.length ≤ A) (h : ∀ y ∈ xs, Sd A c d y) : Sd A c (d + 1) (.tuple xs) := .inr (.inl ⟨xs, .inl rfl, hl, h⟩)
theorem Sd.list {A c d : Nat} {xs : List PyData} (hl : xs.length ≤ A) (h : ∀ y ∈ xs, Sd A c d y) : Sd A c (d + 1) (.list xs) := .inr (.inl ⟨xs, .inr rfl, hl, h⟩)
theorem sd_eO {A c d : Nat} {o : Option Nat} (h : ∀ q, o = some q → q < 1000) : Sd A c d (eO o) := by
  cases o with
  | none => exact Sd.none
  | some q => exact Sd.nat (by have := h q rfl; omega)
theorem wt_eO {o : Option Nat} : wt (eO o) ≤ 32 := by
  cases o <;> simp [eO, wt]
theorem wt_eS {s : MSt} : wt (eS s) ≤ 72 := by
  cases s <;> simp [eS, wt, wts]
theorem wt_eM {m : Mac} (hm : m.Ok) : wt (eM m) ≤ 20000 := by
  have h8 := hm.n8
  have h30 := hm.r30
  have hr : ∀ r ∈ m.rs, wt (eR r) ≤ 636 := by
    intro r hr
    have ok := hm.rs r hr
    have h1 := wt_eO (o := r.fin)
    have h2 := wts_map (f := eS) (l := r.ss) (w := 72) fun s _ => wt_eS
    have := ok.len
    simp only [eR, wt, wts]
    omega
  have h2 := wts_map (f := eR) (l := m.rs) (w := 636) hr
  simp only [eM, wt, wts]
  omega
theorem sd_eM {m : Mac} (hm : m.Ok) : Sd 30 0 5 (eM m) := by
  have h8 := hm.n8
  have h30 := hm.r30
  have hst : ∀ s : MSt, MSt.Ok m.rs.length s → Sd 30 0 1 (eS s) := by
    intro s hs
    cases s with
    | none => exact Sd.none
    | some p =>
      have := hs p rfl
      refine Sd.tuple (by simp) ?_
      simp only [List.mem_cons, List.not_mem_nil, or_false, forall_eq_or_imp, forall_eq]
      exact ⟨Sd.nat (by omega), Sd.nat (by omega)⟩
  have hrow : ∀ r ∈ m.rs.map eR, Sd 30 0 3 r := by
    intro x hx
    obtain ⟨r, hr, rfl⟩ := List.mem_map.mp hx
    have ok := hm.rs r hr
    refine Sd.tuple (by simp) ?_
    simp only [List.mem_cons, List.not_mem_nil, or_false, forall_eq_or_imp, forall_eq]
    refine ⟨sd_eO fun q e => ?_, Sd.tuple ?_ ?_⟩
    · have := ok.fin q e; omega
    · have := ok.len
      simp
      omega
    · intro y hy
      obtain ⟨s, hs, rfl⟩ := List.mem_map.mp hy
      exact hst s (ok.ss s hs)
  refine Sd.tuple (by simp) ?_
  simp only [List.mem_cons, List.not_mem_nil, or_false, forall_eq_or_imp, forall_eq]
  exact ⟨Sd.nat (by omega), Sd.tuple (by simpa using h30) hrow⟩
theorem Sd.small {A c d : Nat} {x : PyData} (hA : A ≤ 16777216) (h : Sd A c d x) : smallT x = true := by
  cases x <;> try rfl
  rename_i ps
  cases d with
  | zero => rcases h with h | ⟨b, h⟩ | ⟨i, h, _⟩ | ⟨z, h, _⟩ <;> cases h
  | succ d =>
    rcases h with (h | ⟨b, h⟩ | ⟨i, h, _⟩ | ⟨z, h, _⟩) | ⟨xs, e, hl, _⟩ | ⟨y, h, _⟩ <;> try cases h
    rcases e with e | e <;> cases e
    exact sizeOk_of (by omega)
end Mp

/-! MP, part W: sep.join(texts). -/
namespace Mp
open PySem PySem.Spec PyProof.Rows L2
def strsOf : List PyData → Option (List Str)
  | [] => some []
  | .str z :: ps => (strsOf ps).map (z :: ·)
  | _ => none
theorem strsOf_rps {K : PySem.W.Frag} {H : Hp} : ∀ {ps : List PyData} {vs : List V} {ys : List Str}, RPs K H ps vs → strsOf ps = some ys → vs = ys.map V.str
  | [], _, ys, h, e => by
    simp only [RPs] at h
    simp only [strsOf, Option.some.injEq] at e
    subst h e
    rfl
  | p :: ps, _, ys, h, e => by
    simp only [RPs] at h
    obtain ⟨v, r, rfl, h1, h2⟩ := h
    cases p <;> simp only [strsOf] at e <;> try cases e
    rename_i z
    obtain ⟨zs, e1, rfl⟩ := Option.map_eq_some_iff.mp e
    rw [strsOf_rps h2 e1, rp_str h1]
    rfl
theorem strsOf_map : ∀ ys : List Str, strsOf (ys.map .str) = some ys
  | [] => rfl
  | y :: ys => by simp only [List.map_cons, strsOf, strsOf_map ys, Option.map_some]
def seqP (d : D) (s : S) : Option (List PyData) := match d with
  | .p (.tuple ps) => some ps
  | d => lstP d s
def fJoin : D → List D → S → R D := fun d ds s => match d, ds with
  | .p (.str a), [x] => (match (seqP x s).bind strsOf with
    | some ys => if sizeOk ((ys.map (·.length)).sum + ys.length * a.length) then .ok (.p (.str (Txt.join a ys))) s else .bad
    | none => .bad)
  | _, _ => .bad
theorem join_signs (cs : List Nat) : Txt.join "" (cs.map fun c => (⟨#[c]⟩ : Str)) = ⟨cs.toArray⟩ := by
  show Builtin.Str.glued "" _ = _
  rw [PySem.StrLaws.glued_eq_join]
  induction cs with
  | nil => rfl
  | cons c cs ih =>
    cases cs with
    | nil => rfl
    | cons d cs =>
      simp only [List.map_cons] at ih ⊢
      show (⟨#[c]⟩ : Str) ++ "" ++ Str.join "" _ = _
      rw [ih]
      show (⟨#[c] ++ ("" : Str).cps ++ (d :: cs).toArray⟩ : Str) = _
      have e : ("" : Str).cps = #[] := by decide
      rw [e]
      simp
section
variable {X : Cx} {W : WX} {pos : Pos} {es : List Expr} {ms : MA} {o e : Expr} {mo : ME} {apos cpos : Pos}
theorem m_join : MethX X "str.join" fJoin := ⟨_, mt_join, fun WE c d ds v vs Q rr q1 q2 h => by
  unfold fJoin at h
  split at h
  · rename_i a x
    obtain ⟨u, rfl, qu⟩ := rds1 q2
    have ev := rd_str q1
    subst ev
    split at h
    · rename_i ys ey
      split at h
      · rename_i hz
        obtain ⟨ps, e1, e2⟩ := Option.bind_eq_some_iff.mp ey
        have hz' : (ys.map (·.length)).sum + ys.length * a.length ≤ 16777216 := by
          have := of_decide_eq_true hz
          rw [sizeLine_eq] at this
          exact this
        unfold seqP at e1
        split at e1
        · rename_i qs
          cases e1
          obtain ⟨p, us, rfl, k1, k2⟩ := rd_tup qu
          rw [strsOf_rps k2 e2] at k1
          exact ⟨a, p, ys, rfl, rfl, .inr k1, hz', h.p rr mk_str⟩
        · obtain ⟨p, us, rfl, k1, k2⟩ := lstP_ok rr qu e1
          rw [strsOf_rps k2 e2] at k1
          exact ⟨a, p, ys, rfl, rfl, .inl k1, hz', h.p rr mk_str⟩
      · exact h.elim
    · exact h.elim
  · exact h.elim⟩
theorem e_join (ho : PE X o (LE X W mo)) (ha : PA X [e] (LA X W ms)) (hbase : attributeBase o "join" X.env (eval o X.env) = eval o X.env := by rfl)
    (hfew : ((backTo cpos (starEach [e] X.env)).all (fun x => !x.1) && (backToKw cpos (keywordEach [] X.env)).all (fun x => x.1.isSome) && decide ([e].length + ([] : List Keyword).length + (if ([] : List Keyword).isEmpty then 0 else 1) < 30)) = true := by rfl)
    (hline : (apos.endLine == cpos.line) = true := by rfl) (hs : starEach [e] X.env = (false, eval e X.env) :: starEach [] X.env := by rfl) : PE X (.Call (.Attribute o "join" apos) [e] [] cpos) (LE X W (mMeth "str" fJoin mo ms)) :=
  e_meth PySem.F.plainAttrs_str PySem.F.slot_str_join PySem.F.type_str_join m_join ho ha hbase hfew hline hs
end
end Mp

/-! MP, part X: an own list times an int. -/
namespace Mp
open PySem PySem.Spec PyProof.Rows L2
theorem Paired.rep {α β : Type} {F : α → β → Prop} {xs : List α} {ys : List β} (h : Paired F xs ys) : ∀ n : Nat, Paired F (List.replicate n xs).flatten (List.replicate n ys).flatten
  | 0 => by simpa using Paired.nil
  | n + 1 => by
    rw [List.replicate_succ, List.replicate_succ, List.flatten_cons, List.flatten_cons]
    exact Paired.app h (Paired.rep h n)
def dRep : D → D → S → R D := fun d1 d2 s => match d1, d2 with
  | .ref i, .p (.int k) => (match s.g[i]? with
    | some (some (.lst xs)) => if 0 ≤ k ∧ k ≤ 1000000 ∧ sizeOk (xs.length * k.toNat) = true then kNew (List.replicate k.toNat xs).flatten s else .bad
    | _ => .bad)
  | _, _ => .bad
theorem o_rep {X : Cx} : Op2 X (binaryOp .Mult) dRep := by
  refine ⟨_, op_rep, fun WE c d1 d2 v1 v2 Q rr q1 q2 h => ?_⟩
  unfold dRep at h
  split at h
  · rename_i i k
    split at h
    · rename_i xs ex
      split at h
      · rename_i hz
        obtain ⟨t1, e1, us, ev1, qs1⟩ := rr.g i _ ex
        obtain ⟨t1', e1', rfl⟩ := q1
        rw [e1] at e1'; cases e1'
        exact ⟨t1, k, us, rfl, rd_int q2, ev1, by omega, by omega, by rw [← Paired.length qs1]; exact of_decide_eq_true hz.2.2, fun p np => kNew_put h rr (Paired.rep qs1 _) np⟩
      · exact h.elim
    · exact h.elim
  · exact h.elim
end Mp

/-! MP, part Y: machines with states put in; comprehensions by relation. -/
namespace Mp
open PySem PySem.Spec PyProof.Rows L2
/-- states put in: N the new numbers of the elder states, B the blind ones among the new -/
structure Mac.Emb (m m2 : Mac) (N : Nat → Nat) (B : Nat → Prop) : Prop where
  n : m2.n = m.n
  z : N 0 = 0
  mono : ∀ i j, i < j → N i < N j
  fin : ∀ i, i < m.rs.length → (m2.row (N i)).fin = (m.row i).fin
  len : ∀ i, i < m.rs.length → (m2.row (N i)).ss.length = m.n
  st : ∀ i, i < m.rs.length → ∀ c, c < m.n → (m2.row (N i)).st c = ((m.row i).st c).map (fun p => (p.1, N p.2)) ∨ ((m.row i).st c = none ∧ ∃ p, (m2.row (N i)).st c = some p ∧ B p.2)
  bfin : ∀ b, B b → (m2.row b).fin = none
  bst : ∀ b, B b → ∀ r ∈ m2.nx b, B r
  bn : ∀ i, i < m.rs.length → ¬ B (N i)
section
variable {m m2 : Mac} {N : Nat → Nat} {B : Nat → Prop}
theorem Mac.nx_mem {m : Mac} {q r n : Nat} (h : (m.row q).ss.length = n) : r ∈ m.nx q ↔ ∃ c, c < n ∧ ∃ k, (m.row q).st c = some (k, r) := by
  constructor
  · intro hr
    unfold Mac.nx at hr
    obtain ⟨s, hs, e⟩ := List.mem_filterMap.mp hr
    obtain ⟨p, rfl, rfl⟩ := Option.map_eq_some_iff.mp e
    obtain ⟨c, hc, e⟩ := List.mem_iff_getElem.mp hs
    exact ⟨c, by omega, p.1, by rw [← MRow.st_eq hc, e]⟩
  · rintro ⟨c, _, k, e⟩
    exact Mac.nx_st e
theorem Mac.Emb.inj (h : m.Emb m2 N B) {i j : Nat} (e : N i = N j) : i = j := by
  rcases Nat.lt_trichotomy i j with z | z | z
  · have := h.mono _ _ z; omega
  · exact z
  · have := h.mono _ _ z; omega
theorem Mac.Emb.blind (h : m.Emb m2 N B) {b : Nat} (hb : B b) : ¬ m2.Coe b := fun ⟨r, k, f⟩ => f (h.bfin _ (Mac.Rch.closed h.bst hb k))
theorem Mac.Emb.nx (hm : m.Ok) (h : m.Emb m2 N B) {i r : Nat} (hi : i < m.rs.length) (e : r ∈ m.nx i) : N r ∈ m2.nx (N i) := by
  obtain ⟨c, hc, k, e⟩ := (Mac.nx_mem (hm.row hi).len).mp e
  refine (Mac.nx_mem (h.len i hi)).mpr ⟨c, hc, k, ?_⟩
  rcases h.st i hi c hc with z | z
  · rw [z, e]; rfl
  · rw [e] at z; cases z.1
theorem Mac.Emb.nx' (hm : m.Ok) (h : m.Emb m2 N B) {i x : Nat} (hi : i < m.rs.length) (e : x ∈ m2.nx (N i)) : (∃ r, r ∈ m.nx i ∧ x = N r) ∨ B x := by
  obtain ⟨c, hc, k, e⟩ := (Mac.nx_mem (h.len i hi)).mp e
  rcases h.st i hi c hc with z | ⟨_, p, z, hb⟩
  · rw [e] at z
    obtain ⟨p, e1, e2⟩ := Option.map_eq_some_iff.mp z.symm
    cases e2
    exact .inl ⟨p.2, Mac.nx_st e1, rfl⟩
  · rw [e] at z
    cases z
    exact .inr hb
theorem Mac.Emb.rch (hm : m.Ok) (h : m.Emb m2 N B) {a b : Nat} (ha : a < m.rs.length) (k : m.Rch a b) : m2.Rch (N a) (N b) := by
  induction k with
  | refl => exact .refl _
  | step k e ih => exact ih.step (h.nx hm (k.lt hm ha) e)
theorem Mac.Emb.rch' (hm : m.Ok) (h : m.Emb m2 N B) {a x y : Nat} (ha : a < m.rs.length) (ex : x = N a) (k : m2.Rch x y) : (∃ i, i < m.rs.length ∧ y = N i ∧ m.Rch a i) ∨ B y := by
  induction k with
  | refl => exact .inl ⟨a, ha, ex, .refl _⟩
  | step k e ih =>
    rcases ih with ⟨i, hi, rfl, ki⟩ | hb
    · rcases h.nx' hm hi e with ⟨r, hr, rfl⟩ | hb
      · exact .inl ⟨r, Mac.nx_lt hm hi hr, rfl, ki.step hr⟩
      · exact .inr hb
    · exact .inr (h.bst _ hb _ e)
theorem Mac.Emb.coe (hm : m.Ok) (h : m.Emb m2 N B) {i : Nat} (hi : i < m.rs.length) : m2.Coe (N i) ↔ m.Coe i := by
  constructor
  · rintro ⟨r, k, f⟩
    rcases h.rch' hm hi rfl k with ⟨j, hj, rfl, kj⟩ | hb
    · exact ⟨j, kj, by rw [← h.fin j hj]; exact f⟩
    · exact absurd (h.bfin _ hb) f
  · rintro ⟨r, k, f⟩
    exact ⟨N r, h.rch hm hi k, by rw [h.fin r (k.lt hm hi)]; exact f⟩
theorem srt_ext : ∀ {l k : List Nat}, l.Pairwise (· < ·) → k.Pairwise (· < ·) → (∀ x, x ∈ l ↔ x ∈ k) → l = k
  | [], k, _, _, h => by
    cases k with
    | nil => rfl
    | cons b k => exact absurd ((h b).mpr List.mem_cons_self) (by simp)
  | a :: l, [], _, _, h => absurd ((h a).mp List.mem_cons_self) (by simp)
  | a :: l, b :: k, hl, hk, h => by
    obtain ⟨h1, h2⟩ := List.pairwise_cons.mp hl
    obtain ⟨h3, h4⟩ := List.pairwise_cons.mp hk
    have e : a = b := by
      have c : a ≤ b := by
        rcases List.mem_cons.mp ((h b).mpr List.mem_cons_self) with e | e
        · omega
        · have := h1 b e; omega
      have d : b ≤ a := by
        rcases List.mem_cons.mp ((h a).mp List.mem_cons_self) with e | e
        · omega
        · have := h3 a e; omega
      omega
    subst e
    rw [srt_ext h2 h4 fun x => ?_]
    constructor
    · intro hx
      rcases List.mem_cons.mp ((h x).mp (List.mem_cons_of_mem _ hx)) with e | e
      · have := h1 x hx; omega
      · exact e
    · intro hx
      rcases List.mem_cons.mp ((h x).mpr (List.mem_cons_of_mem _ hx)) with e | e
      · have := h3 x hx; omega
      · exact e
theorem Mac.Emb.live (hm : m.Ok) (hm2 : m2.Ok) (h : m.Emb m2 N B) : m2.live = m.live.map N := by
  have h0 : 0 < m.rs.length := hm.r1
  refine srt_ext Mac.live_srt ?_ fun x => ?_
  · rw [List.pairwise_map]
    exact Mac.live_srt.imp fun z => h.mono _ _ z
  · rw [Mac.live_mem hm2, List.mem_map]
    constructor
    · rintro ⟨k1, k2⟩
      rcases h.rch' hm h0 h.z.symm k1 with ⟨i, hi, rfl, ki⟩ | hb
      · exact ⟨i, (Mac.live_mem hm).mpr ⟨ki, (h.coe hm hi).mp k2⟩, rfl⟩
      · exact absurd k2 (h.blind hb)
    · rintro ⟨i, hi, rfl⟩
      have hi' := Mac.live_lt hi
      obtain ⟨k1, k2⟩ := (Mac.live_mem hm).mp hi
      have := h.rch hm h0 k1
      rw [h.z] at this
      exact ⟨this, (h.coe hm hi').mpr k2⟩
theorem idx_map {l : List Nat} (hN : ∀ i j, N i = N j → i = j) : ∀ {q : Nat}, (l.map N).idxOf (N q) = l.idxOf q := by
  intro q
  induction l with
  | nil => rfl
  | cons a l ih =>
    rw [List.map_cons, List.idxOf_cons, List.idxOf_cons, ih]
    by_cases e : a = q
    · subst e; simp
    · have e1 : (a == q) = false := by simpa using e
      have e2 : (N a == N q) = false := by simpa using fun z => e (hN _ _ z)
      rw [e1, e2]
theorem Mac.Emb.trim (hm : m.Ok) (hm2 : m2.Ok) (h : m.Emb m2 N B) : m2.trim = m.trim := by
  have hl := h.live hm hm2
  have mem : ∀ q, N q ∈ m2.live ↔ q ∈ m.live := fun q => by
    rw [hl, List.mem_map]
    exact ⟨fun ⟨i, hi, e⟩ => h.inj e ▸ hi, fun hq => ⟨q, hq, rfl⟩⟩
  have m0 := mem 0
  rw [h.z] at m0
  by_cases h0 : 0 ∈ m.live
  · rw [Mac.trim_pos h0, Mac.trim_pos (m0.mpr h0), h.n]
    congr 1
    rw [hl, List.map_map]
    refine List.map_congr_left fun q hq => ?_
    have hq' := Mac.live_lt hq
    show MRow.keep (m.live.map N) (m2.row (N q)) = MRow.keep m.live (m.row q)
    unfold MRow.keep
    rw [h.fin q hq']
    congr 1
    apply List.ext_getElem
    · simp [h.len q hq', (hm.row hq').len]
    · intro c h1 h2
      have hc : c < m.n := by simpa [(hm.row hq').len] using h2
      rw [List.getElem_map, List.getElem_map, MRow.st_eq, MRow.st_eq]
      have hb : ∀ {b : Nat}, B b → b ∉ m.live.map N := fun {b} z w => by
        rw [← hl] at w
        exact h.blind z ((Mac.live_mem hm2).mp w).2
      rcases h.st q hq' c hc with z | ⟨z1, p, z2, z3⟩
      · rw [z]
        cases (m.row q).st c with
        | none => rfl
        | some p =>
          have e1 : N p.2 ∈ m.live.map N ↔ p.2 ∈ m.live := by rw [← hl]; exact mem p.2
          simp only [MSt.keep, Option.map_some, Option.bind_some, e1, idx_map fun i j e => h.inj e]
      · rw [z1, z2]
        simp only [MSt.keep, Option.bind_some, hb z3, if_false, Option.bind_none]
  · rw [Mac.trim_neg h0, Mac.trim_neg (fun z => h0 (m0.mp z)), h.n]
end
/-- a comprehension, item by item -/
theorem lc_rel {α β : Type} {ok : S → Prop} {i : Nat} {me : ME} {env0 : Env1} {I : S → Prop} {P : β → α → Prop} {b : β → D} {f : α → PyData} (ho : ∀ s, I s → ok s) : ∀ {bs : List β} {s : S} {Q : List D → S → Prop},
    (∀ x ∈ bs, ∀ s, I s → Gets (me (env0.set i (some (b x))) s) fun d s' => I s' ∧ ∃ a, P x a ∧ d = .p (f a)) → I s →
    (∀ (as : List α) s', as.length = bs.length → (∀ (j : Nat) x a, bs[j]? = some x → as[j]? = some a → P x a) → I s' → Q (as.map fun a => D.p (f a)) s') → Gets (lcL ok (gSet i) mYes me env0 (bs.map b) s) Q
  | [], s, Q, _, hi, k => by
    rw [List.map_nil, lcL_e0, if_pos (ho s hi)]
    exact .of (k [] s rfl (by simp) hi)
  | x :: bs, s, Q, h, hi, k => by
    rw [List.map_cons, lcL_e1, if_pos (ho s hi)]
    obtain ⟨d, s1, e, h1, a, pa, rfl⟩ := h x List.mem_cons_self s hi
    simp only [gSet, noex, R.bind, mYes, if_true, e]
    have := lc_rel (Q := fun ds s' => Q (.p (f a) :: ds) s') ho (fun y hy => h y (List.mem_cons_of_mem _ hy)) h1 fun as s' hl hp hs => by
      refine k (a :: as) s' (by simp [hl]) (fun j x' a' e1 e2 => ?_) hs
      cases j with
      | zero => simp at e1 e2; subst e1; subst e2; exact pa
      | succ j => simp at e1 e2; exact hp j x' a' e1 e2
    obtain ⟨ds, s2, e2, q⟩ := this
    rw [e2]
    exact .of q
end Mp

namespace Lw
open PySem PySem.Spec PyProof.Rows L2 Mp
set_option maxHeartbeats 4000000
def top (i : Nat) : Stmt := (PySem.Challenge.pw_keptlengths_k04_whole_states_without_use).main.body.getD i (.Pass ⟨0, 0, 0, 0⟩)

abbrev t_is_integer : Stmt := top 5
abbrev t_is_between : Stmt := top 6
abbrev t_is_index : Stmt := top 7
abbrev t_is_tuple_of : Stmt := top 8
abbrev t_is_size : Stmt := top 15
abbrev t_raw_is_text : Stmt := top 16
abbrev t_is_step : Stmt := top 17
abbrev t_is_row : Stmt := top 18
abbrev t_is_machine : Stmt := top 19
abbrev t_check_machine : Stmt := top 20
abbrev t_raw_length : Stmt := top 21
abbrev t_check_text : Stmt := top 22
abbrev t_length : Stmt := top 23
abbrev t_reached : Stmt := top 24
abbrev t_ending : Stmt := top 25
abbrev t_raw_trimmed : Stmt := top 26
abbrev t_trimmed : Stmt := top 27
abbrev t__law_mixed : Stmt := top 29
abbrev t__law_well : Stmt := top 30
abbrev t__law_filled : Stmt := top 31
abbrev t__law_draw : Stmt := top 32
abbrev t__law_more : Stmt := top 33
abbrev t__law_step : Stmt := top 34
abbrev t__law_end : Stmt := top 35
abbrev t__law_machine : Stmt := top 36
abbrev t__law_nexts : Stmt := top 37
abbrev t__law_reached : Stmt := top 38
abbrev t__law_fresh : Stmt := top 39
abbrev t__law_ends : Stmt := top 40
abbrev t__law_trimmed : Stmt := top 41
abbrev t__law_kept_step : Stmt := top 42
abbrev t__law_way : Stmt := top 43
abbrev t__law_short_texts : Stmt := top 44
abbrev t__law_numbers : Stmt := top 45
abbrev t__law_moved : Stmt := top 46
abbrev t__law_into : Stmt := top 47
abbrev t__law_with_more : Stmt := top 48
abbrev t__law_inside : Stmt := top 49
abbrev t_law : Stmt := top 50
def emL : List ((Str × Str) × Bool) := []
def emT (x y : Str) : Option Bool := emL.lookup (x, y)
structure Nm (K : PySem.W.Frag) (mg : Str → Option Value) : Prop where
  f_all : mg "all" = none
  f_any : mg "any" = none
  f_bool : mg "bool" = none
  f_enumerate : mg "enumerate" = none
  f_int : mg "int" = none
  f_isinstance : mg "isinstance" = none
  f_len : mg "len" = none
  f_range : mg "range" = none
  f_sorted : mg "sorted" = none
  f_tuple : mg "tuple" = none
  i_MOST_SIZE : ∃ t, mg "MOST_SIZE" = some (.int 8 t)
  i_MOST_STATES : ∃ t, mg "MOST_STATES" = some (.int 30 t)
  i_MOST_MORE : ∃ t, mg "MOST_MORE" = some (.int 60 t)
  i_SIZE : ∃ t, mg "SIZE" = some (.int 0 t)
  i_ROWS : ∃ t, mg "ROWS" = some (.int 1 t)
  d_is_integer : DefAt K mg "is_integer" t_is_integer
  d_is_between : DefAt K mg "is_between" t_is_between
  d_is_index : DefAt K mg "is_index" t_is_index
  d_is_tuple_of : DefAt K mg "is_tuple_of" t_is_tuple_of
  d_is_size : DefAt K mg "is_size" t_is_size
  d_raw_is_text : DefAt K mg "raw_is_text" t_raw_is_text
  d_is_step : DefAt K mg "is_step" t_is_step
  d_is_row : DefAt K mg "is_row" t_is_row
  d_is_machine : DefAt K mg "is_machine" t_is_machine
  d_check_machine : DefAt K mg "check_machine" t_check_machine
  d_raw_length : DefAt K mg "raw_length" t_raw_length
  d_check_text : DefAt K mg "check_text" t_check_text
  d_length : DefAt K mg "length" t_length
  d_reached : DefAt K mg "reached" t_reached
  d_ending : DefAt K mg "ending" t_ending
  d_raw_trimmed : DefAt K mg "raw_trimmed" t_raw_trimmed
  d_trimmed : DefAt K mg "trimmed" t_trimmed
  d__law_mixed : DefAt K mg "_law_mixed" t__law_mixed
  d__law_well : DefAt K mg "_law_well" t__law_well
  d__law_filled : DefAt K mg "_law_filled" t__law_filled
  d__law_draw : DefAt K mg "_law_draw" t__law_draw
  d__law_more : DefAt K mg "_law_more" t__law_more
  d__law_step : DefAt K mg "_law_step" t__law_step
  d__law_end : DefAt K mg "_law_end" t__law_end
  d__law_machine : DefAt K mg "_law_machine" t__law_machine
  d__law_nexts : DefAt K mg "_law_nexts" t__law_nexts
  d__law_reached : DefAt K mg "_law_reached" t__law_reached
  d__law_fresh : DefAt K mg "_law_fresh" t__law_fresh
  d__law_ends : DefAt K mg "_law_ends" t__law_ends
  d__law_trimmed : DefAt K mg "_law_trimmed" t__law_trimmed
  d__law_kept_step : DefAt K mg "_law_kept_step" t__law_kept_step
  d__law_way : DefAt K mg "_law_way" t__law_way
  d__law_short_texts : DefAt K mg "_law_short_texts" t__law_short_texts
  d__law_numbers : DefAt K mg "_law_numbers" t__law_numbers
  d__law_moved : DefAt K mg "_law_moved" t__law_moved
  d__law_into : DefAt K mg "_law_into" t__law_into
  d__law_with_more : DefAt K mg "_law_with_more" t__law_with_more
  d__law_inside : DefAt K mg "_law_inside" t__law_inside
  d_law : DefAt K mg "law" t_law
  x_NoMachine : XcAt K mg "NoMachine"
  x_NoText : XcAt K mg "NoText"
section
variable {P : Program} {w : World} {K : PySem.W.Frag} {mg : Str → Option Value} {base : Heap}

/-! is_integer -/
theorem sc_is_integer : FnScope ["thing"] ["thing"] (defScope t_is_integer) := ⟨rfl, rfl, rfl, by decide +kernel, rfl, by decide +kernel, by decide +kernel⟩
theorem bn_is_integer : BindN "is_integer" t_is_integer ["thing"] := fun _ _ _ _ _ _ us hl => match us, hl with | [_], _ => rfl
noncomputable def b_is_integer : MS := (sRet (mAndV (mIsi "int" (mVar 0)) (mNotV (mIsi "bool" (mVar 0)))))
theorem raw_is_integer (N : Nm K mg) : DefOk P w K mg base "is_integer" 1 1 (fnM 1 1 b_is_integer) := def_mk N.d_is_integer sc_is_integer bn_is_integer rfl rfl fun f cdv A outer s H E hr nd tk hp => (ss_one (s_ret (e_and (e_isi (T := "int") (by decide) rfl N.f_isinstance rfl N.f_int bt_int (e_var (i := 0))) (e_one (e_not (e_isi (T := "bool") (by decide) rfl N.f_isinstance rfl N.f_bool bt_bool (e_var (i := 0))))))))
def M_is_integer : List D → S → R D := fun ds s => match ds with
  | [.p x] => .ok (.p (.bool (isInteger x))) s
  | _ => .bad
theorem ok_is_integer (N : Nm K mg) : DefOk P w K mg base "is_integer" 1 1 M_is_integer := (raw_is_integer N).alone.eqv fun ds s => by
  unfold M_is_integer
  split
  · rename_i x
    left
    cases x <;> rfl
  · exact .inr rfl

/-! is_between -/
theorem sc_is_between : FnScope ["thing", "least", "most"] ["thing", "least", "most"] (defScope t_is_between) := ⟨rfl, rfl, rfl, by decide +kernel, rfl, by decide +kernel, by decide +kernel⟩
theorem bn_is_between : BindN "is_between" t_is_between ["thing", "least", "most"] := fun _ _ _ _ _ _ us hl => match us, hl with | [_, _, _], _ => rfl
noncomputable def b_is_between : MS := (sRet (mAndV (mCall M_is_integer (mCons (mVar 0) mNil)) (mChain (pp2 iLe) (pp2 iLe) (mVar 1) (mVar 0) (mVar 2))))
theorem raw_is_between (N : Nm K mg) : DefOk P w K mg base "is_between" 2 3 (fnM 3 3 b_is_between) := def_mk N.d_is_between sc_is_between bn_is_between rfl rfl fun f cdv A outer s H E hr nd tk hp => (ss_one (s_ret (e_and (e_callS (ok_is_integer N) hr (by decide) tk (a_cons (e_var (i := 0)) a_nil) (argN_cons argN_nil)) (e_one (e_chain o_leP o_leP (e_var (i := 1)) (e_var (i := 0)) (e_var (i := 2)))))))
def M_is_between : List D → S → R D := fun ds s => match ds with
  | [.p x, .p (.int a), .p (.int b)] => .ok (.p (.bool (isBetween x a b))) s
  | _ => .bad
theorem ok_is_between (N : Nm K mg) : DefOk P w K mg base "is_between" 2 3 M_is_between := (raw_is_between N).alone.eqv fun ds s => by
  unfold M_is_between
  split
  · rename_i x a b
    left
    cases x <;> try rfl
    rename_i i
    simp only [b_is_between, pureRun, onlyP, fnM, mVar, mK, mBin, mUn, mTru, mTest, mAnd, mOr, mNot, mAndV, mOrV, mNotV, mIf, mNil, mCons, mTup, mLst, mLstF, mCall, mChain, mIsi, fIsi, tyD, tyP, mSlice, oNo, oSome, mSeq, srcOf, mRange1, mRange2, sNext, sSeq, sIf, sRet, sRetN, sExpr, sSet, sAsg, sAug, sFor, sRaise, gSet, gMore, gNone, Mp.gTup, mMeth, fAppend, mEnum, srcEnum, mDNew, fLen, fInt, truth, ptruth, asB, pp1, pp2, ret1, dIs, isN, allP, frzD, mFrz, Mp.R.bind, R.thn, RS.seq, List.map_cons, List.map_nil, List.cons_append, List.nil_append, List.length_cons, List.length_nil, List.getElem?_cons_zero, List.getElem?_cons_succ, List.getElem?_nil, List.set_cons_zero, List.set_cons_succ, if_true, ite_true, Nat.reduceAdd, Nat.reduceSub, List.replicate, Bool.false_eq_true, if_false, Bool.not_true, Bool.not_false, M_is_integer, isInteger, isBetween, iLe, iCmp]
    by_cases h : a ≤ i <;> simp [h]
  · exact .inr rfl

/-! is_index -/
theorem sc_is_index : FnScope ["thing", "many"] ["thing", "many"] (defScope t_is_index) := ⟨rfl, rfl, rfl, by decide +kernel, rfl, by decide +kernel, by decide +kernel⟩
theorem bn_is_index : BindN "is_index" t_is_index ["thing", "many"] := fun _ _ _ _ _ _ us hl => match us, hl with | [_, _], _ => rfl
noncomputable def b_is_index : MS := (sRet (mCall M_is_between (mCons (mVar 0) (mCons (mK (.int 0)) (mCons (mBin (pp2 iSub) (mVar 1) (mK (.int 1))) mNil)))))
theorem raw_is_index (N : Nm K mg) : DefOk P w K mg base "is_index" 3 2 (fnM 2 2 b_is_index) := def_mk N.d_is_index sc_is_index bn_is_index rfl rfl fun f cdv A outer s H E hr nd tk hp => (ss_one (s_ret (e_callS (ok_is_between N) hr (by decide) tk (a_cons (e_var (i := 0)) (a_cons e_int (a_cons (e_bin o_sub (e_var (i := 1)) e_int) a_nil))) (argN_cons (argN_cons (argN_cons argN_nil))))))
def M_is_index : List D → S → R D := fun ds s => match ds with
  | [.p x, .p (.int n)] => .ok (.p (.bool (isIndex x n))) s
  | _ => .bad
theorem ok_is_index (N : Nm K mg) : DefOk P w K mg base "is_index" 3 2 M_is_index := (raw_is_index N).alone.eqv fun ds s => by
  unfold M_is_index
  split
  · left; rfl
  · exact .inr rfl

/-! is_tuple_of -/
theorem sc_is_tuple_of : FnScope ["thing", "many"] ["thing", "many"] (defScope t_is_tuple_of) := ⟨rfl, rfl, rfl, by decide +kernel, rfl, by decide +kernel, by decide +kernel⟩
theorem bn_is_tuple_of : BindN "is_tuple_of" t_is_tuple_of ["thing", "many"] := fun _ _ _ _ _ _ us hl => match us, hl with | [_, _], _ => rfl
noncomputable def b_is_tuple_of : MS := (sRet (mAndV (mIsi "tuple" (mVar 0)) (mBin (pp2 iEq) (mCall fLen (mCons (mVar 0) mNil)) (mVar 1))))
theorem raw_is_tuple_of (N : Nm K mg) : DefOk P w K mg base "is_tuple_of" 1 2 (fnM 2 2 b_is_tuple_of) := def_mk N.d_is_tuple_of sc_is_tuple_of bn_is_tuple_of rfl rfl fun f cdv A outer s H E hr nd tk hp => (ss_one (s_ret (e_and (e_isi (T := "tuple") (by decide) rfl N.f_isinstance rfl N.f_tuple bt_tuple (e_var (i := 0))) (e_one (e_cmp (o_eq hr.units) (e_bi b_len rfl N.f_len bt_len (a_cons (e_var (i := 0)) a_nil)) (e_var (i := 1)) (nomark _))))))
def M_is_tuple_of : List D → S → R D := fun ds s => match ds with
  | [.p x, .p (.int n)] => .ok (.p (.bool (isTupleOf x n))) s
  | _ => .bad
theorem ok_is_tuple_of (N : Nm K mg) : DefOk P w K mg base "is_tuple_of" 1 2 M_is_tuple_of := (raw_is_tuple_of N).alone.eqv fun ds s => by
  unfold M_is_tuple_of
  split
  · rename_i x n
    left
    cases x <;> rfl
  · exact .inr rfl

/-! is_size -/
theorem sc_is_size : FnScope ["thing"] ["thing"] (defScope t_is_size) := ⟨rfl, rfl, rfl, by decide +kernel, rfl, by decide +kernel, by decide +kernel⟩
theorem bn_is_size : BindN "is_size" t_is_size ["thing"] := fun _ _ _ _ _ _ us hl => match us, hl with | [_], _ => rfl
noncomputable def b_is_size : MS := (sRet (mCall M_is_between (mCons (mVar 0) (mCons (mK (.int 1)) (mCons (mK (.int 8)) mNil)))))
theorem raw_is_size (N : Nm K mg) : DefOk P w K mg base "is_size" 3 1 (fnM 1 1 b_is_size) := def_mk N.d_is_size sc_is_size bn_is_size rfl rfl fun f cdv A outer s H E hr nd tk hp => (ss_one (s_ret (e_callS (ok_is_between N) hr (by decide) tk (a_cons (e_var (i := 0)) (a_cons e_int (a_cons (e_gint N.i_MOST_SIZE) a_nil))) (argN_cons (argN_cons (argN_cons argN_nil))))))
def M_is_size : List D → S → R D := fun ds s => match ds with
  | [.p x] => .ok (.p (.bool (isBetween x 1 8))) s
  | _ => .bad
theorem ok_is_size (N : Nm K mg) : DefOk P w K mg base "is_size" 3 1 M_is_size := (raw_is_size N).alone.eqv fun ds s => by
  unfold M_is_size
  split
  · left; rfl
  · exact .inr rfl

/-! raw_is_text -/
theorem sc_raw_is_text : FnScope ["size", "thing", "letter"] ["size", "thing"] (defScope t_raw_is_text) := ⟨rfl, rfl, rfl, by decide +kernel, rfl, by decide +kernel, by decide +kernel⟩
theorem bn_raw_is_text : BindN "raw_is_text" t_raw_is_text ["size", "thing"] := fun _ _ _ _ _ _ us hl => match us, hl with | [_, _], _ => rfl
noncomputable def b_raw_is_text : MS := (sRet (mAndV (mIsi "tuple" (mVar 1)) (mCall fAll (mCons (mLc (mSeq (mVar 1)) [2] (gSet 2) mYes (mCall M_is_index (mCons (mVar 2) (mCons (mVar 0) mNil))) kFrz) mNil))))
theorem raw_raw_is_text (N : Nm K mg) : DefOk P w K mg base "raw_is_text" 4 2 (fnM 2 3 b_raw_is_text) := def_mk N.d_raw_is_text sc_raw_is_text bn_raw_is_text rfl rfl fun f cdv A outer s H E hr nd tk hp => (ss_one (s_ret (e_and (e_isi (T := "tuple") (by decide) rfl N.f_isinstance rfl N.f_tuple bt_tuple (e_var (i := 1))) (e_one (e_bi (b_all rfl) rfl N.f_all bt_all (a_cons (e_lcF (own := [("letter", 2)]) rfl nd (i_seq (e_var (i := 1))) (blkOk_by (N := ["size", "thing", "letter"]) (sc := defScope t_raw_is_text) (own := [("letter", 2)]) (by decide +kernel)) (tg_name (i := 2) (by decide)) (fun _ _ _ _ _ => pg_name (i := 2) nd rfl (by first | exact Or.inl rfl | exact Or.inr rfl)) (fun _ _ _ _ _ => c_no) (fun _ _ _ _ _ => (e_callS (ok_is_index N) hr (by decide) takes0 (a_cons (e_var (i := 2)) (a_cons (e_var (i := 0)) a_nil)) (argN_cons (argN_cons argN_nil))))) a_nil))))))
def M_raw_is_text : List D → S → R D := fun ds s => match ds with
  | [.p (.int n), .p x] => if smallT x then .ok (.p (.bool (isText n x))) s else .bad
  | _ => .bad
theorem ok_raw_is_text (N : Nm K mg) : DefOk P w K mg base "raw_is_text" 4 2 M_raw_is_text := (raw_raw_is_text N).alone.eqv fun ds s => by
  unfold M_raw_is_text
  split
  · rename_i n x
    split
    · rename_i hz
      left
      cases x <;> try rfl
      rename_i ps
      have e0 : ∀ env w, lcL (Src.fix (ps.map D.p)).ok (gSet 2) mYes (mCall M_is_index (mCons (mVar 2) (mCons (mVar 0) mNil))) [some (.p (.int n)), env, none] (ps.map D.p) ⟨[], w⟩ = .ok (ps.map fun x => .p (.bool (isIndex x n))) ⟨[], w⟩ := fun env w => lc_map trivial fun x _ => by simp [pureRun, onlyP, fnM, mVar, mK, mBin, mUn, mTru, mTest, mAnd, mOr, mNot, mAndV, mOrV, mNotV, mIf, mNil, mCons, mTup, mLst, mLstF, mCall, mChain, mIsi, fIsi, tyD, tyP, mSlice, oNo, oSome, mSeq, srcOf, mRange1, mRange2, sNext, sSeq, sIf, sRet, sRetN, sExpr, sSet, sAsg, sAug, sFor, sRaise, gSet, gMore, gNone, Mp.gTup, mMeth, fAppend, mEnum, srcEnum, mDNew, fLen, fInt, truth, ptruth, asB, pp1, pp2, ret1, dIs, isN, allP, frzD, mFrz, Mp.R.bind, R.thn, RS.seq, List.map_cons, List.map_nil, List.cons_append, List.nil_append, List.length_cons, List.length_nil, List.getElem?_cons_zero, List.getElem?_cons_succ, List.getElem?_nil, List.set_cons_zero, List.set_cons_succ, if_true, ite_true, Nat.reduceAdd, Nat.reduceSub, List.replicate, Bool.false_eq_true, if_false, Bool.not_true, Bool.not_false, M_is_index]
      have hz' : sizeOk ps.length = true := hz
      simp [b_raw_is_text, pureRun, onlyP, fnM, mVar, mK, mBin, mUn, mTru, mTest, mAnd, mOr, mNot, mAndV, mOrV, mNotV, mIf, mNil, mCons, mTup, mLst, mLstF, mCall, mChain, mIsi, fIsi, tyD, tyP, mSlice, oNo, oSome, mSeq, srcOf, mRange1, mRange2, sNext, sSeq, sIf, sRet, sRetN, sExpr, sSet, sAsg, sAug, sFor, sRaise, gSet, gMore, gNone, Mp.gTup, mMeth, fAppend, mEnum, srcEnum, mDNew, fLen, fInt, truth, ptruth, asB, pp1, pp2, ret1, dIs, isN, allP, frzD, mFrz, Mp.R.bind, R.thn, RS.seq, List.map_cons, List.map_nil, List.cons_append, List.nil_append, List.length_cons, List.length_nil, List.getElem?_cons_zero, List.getElem?_cons_succ, List.getElem?_nil, List.set_cons_zero, List.set_cons_succ, if_true, ite_true, Nat.reduceAdd, Nat.reduceSub, List.replicate, Bool.false_eq_true, if_false, Bool.not_true, Bool.not_false, mp_ft, mp_tf, isTy, beq_self_eq_true, isi0, isi1, isi2, isi3, isi4, isi5, isi6, isi7, isi8, isi9, isi10, isi11, isi12, isi13, isi14, isi15, isi16, isi17, isi18, isi19, isi20, isi21, isi22, isi23, isi24, isi25, isi26, isi27, isi28, isi29, isi30, isi31, isi32, isi33, isi34, isi35, isi36, isi37, isi38, isi39, isi40, isi41, onlyF, dIx_tup, dIx_lst, dIx_ref, ixAt_0, ixAt_1, ixAt_2, ixAt_3, iEq_int, iNe_int, dAdd, iAdd, iSub, iNeg, iCmp, iLe, iLt, iGe, iGt, dMul, iMulT, iMul, iMod, iDiv, gIx, setIx, decide_true, decide_false, decide_eq_true_eq, Bool.not_eq_true, List.length_map, mLc, wipeE, Src.items, hz', e0, kFrz, fAll, lstP, isText, -List.map_map, allP_map, allB_map]
    · exact .inr rfl
  · exact .inr rfl

/-! is_step -/
theorem sc_is_step : FnScope ["thing", "states"] ["thing", "states"] (defScope t_is_step) := ⟨rfl, rfl, rfl, by decide +kernel, rfl, by decide +kernel, by decide +kernel⟩
theorem bn_is_step : BindN "is_step" t_is_step ["thing", "states"] := fun _ _ _ _ _ _ us hl => match us, hl with | [_, _], _ => rfl
noncomputable def b_is_step : MS := (sSeq (sIf (mTest (mBin (dIs true) (mVar 0) (mK .none))) (sRet (mK (.bool true))) sNext) (sRet (mAndV (mCall M_is_tuple_of (mCons (mVar 0) (mCons (mK (.int 2)) mNil))) (mAndV (mCall M_is_between (mCons (mBin dIx (mVar 0) (mK (.int 0))) (mCons (mK (.int 0)) (mCons (mK (.int 60)) mNil)))) (mCall M_is_index (mCons (mBin dIx (mVar 0) (mK (.int 1))) (mCons (mVar 1) mNil)))))))
theorem raw_is_step (N : Nm K mg) : DefOk P w K mg base "is_step" 4 2 (fnM 2 2 b_is_step) := def_mk N.d_is_step sc_is_step bn_is_step rfl rfl fun f cdv A outer s H E hr nd tk hp => (ss_cons (s_if (t_cmp o_is (e_var (i := 0)) e_none (nomark _)) (ss_one (s_ret e_bool)) ss_nil) (ss_one (s_ret (e_and (e_callS (ok_is_tuple_of N) hr (by decide) tk (a_cons (e_var (i := 0)) (a_cons e_int a_nil)) (argN_cons (argN_cons argN_nil))) (e_and (e_callS (ok_is_between N) hr (by decide) tk (a_cons (e_ix (e_var (i := 0)) e_int) (a_cons e_int (a_cons (e_gint N.i_MOST_MORE) a_nil))) (argN_cons (argN_cons (argN_cons argN_nil)))) (e_one (e_callS (ok_is_index N) hr (by decide) tk (a_cons (e_ix (e_var (i := 0)) e_int) (a_cons (e_var (i := 1)) a_nil)) (argN_cons (argN_cons argN_nil)))))))))
def M_is_step : List D → S → R D := fun ds s => match ds with
  | [.p x, .p (.int q)] => .ok (.p (.bool (isStep x q))) s
  | _ => .bad
theorem ok_is_step (N : Nm K mg) : DefOk P w K mg base "is_step" 4 2 M_is_step := (raw_is_step N).alone.eqv fun ds s => by
  unfold M_is_step
  split
  · rename_i x q
    left
    cases x <;> try rfl
    rename_i ps
    rcases ps with _ | ⟨a, _ | ⟨b, _ | ⟨c, r⟩⟩⟩
    · rfl
    · rfl
    · cases h : isBetween a 0 60 <;> simp [b_is_step, pureRun, onlyP, fnM, mVar, mK, mBin, mUn, mTru, mTest, mAnd, mOr, mNot, mAndV, mOrV, mNotV, mIf, mNil, mCons, mTup, mLst, mLstF, mCall, mChain, mIsi, fIsi, tyD, tyP, mSlice, oNo, oSome, mSeq, srcOf, mRange1, mRange2, sNext, sSeq, sIf, sRet, sRetN, sExpr, sSet, sAsg, sAug, sFor, sRaise, gSet, gMore, gNone, Mp.gTup, mMeth, fAppend, mEnum, srcEnum, mDNew, fLen, fInt, truth, ptruth, asB, pp1, pp2, ret1, dIs, isN, allP, frzD, mFrz, Mp.R.bind, R.thn, RS.seq, List.map_cons, List.map_nil, List.cons_append, List.nil_append, List.length_cons, List.length_nil, List.getElem?_cons_zero, List.getElem?_cons_succ, List.getElem?_nil, List.set_cons_zero, List.set_cons_succ, if_true, ite_true, Nat.reduceAdd, Nat.reduceSub, List.replicate, Bool.false_eq_true, if_false, Bool.not_true, Bool.not_false, mp_ft, mp_tf, isTy, beq_self_eq_true, isi0, isi1, isi2, isi3, isi4, isi5, isi6, isi7, isi8, isi9, isi10, isi11, isi12, isi13, isi14, isi15, isi16, isi17, isi18, isi19, isi20, isi21, isi22, isi23, isi24, isi25, isi26, isi27, isi28, isi29, isi30, isi31, isi32, isi33, isi34, isi35, isi36, isi37, isi38, isi39, isi40, isi41, onlyF, dIx_tup, dIx_lst, dIx_ref, ixAt_0, ixAt_1, ixAt_2, ixAt_3, iEq_int, iNe_int, dAdd, iAdd, iSub, iNeg, iCmp, iLe, iLt, iGe, iGt, dMul, iMulT, iMul, iMod, iDiv, gIx, setIx, decide_true, decide_false, decide_eq_true_eq, Bool.not_eq_true, List.length_map, isStep, isTupleOf, M_is_tuple_of, M_is_between, M_is_index, h]
    · have : ¬ ((r.length : Int) + 1 + 1 + 1 = 2) := by omega
      simp [b_is_step, pureRun, onlyP, fnM, mVar, mK, mBin, mUn, mTru, mTest, mAnd, mOr, mNot, mAndV, mOrV, mNotV, mIf, mNil, mCons, mTup, mLst, mLstF, mCall, mChain, mIsi, fIsi, tyD, tyP, mSlice, oNo, oSome, mSeq, srcOf, mRange1, mRange2, sNext, sSeq, sIf, sRet, sRetN, sExpr, sSet, sAsg, sAug, sFor, sRaise, gSet, gMore, gNone, Mp.gTup, mMeth, fAppend, mEnum, srcEnum, mDNew, fLen, fInt, truth, ptruth, asB, pp1, pp2, ret1, dIs, isN, allP, frzD, mFrz, Mp.R.bind, R.thn, RS.seq, List.map_cons, List.map_nil, List.cons_append, List.nil_append, List.length_cons, List.length_nil, List.getElem?_cons_zero, List.getElem?_cons_succ, List.getElem?_nil, List.set_cons_zero, List.set_cons_succ, if_true, ite_true, Nat.reduceAdd, Nat.reduceSub, List.replicate, Bool.false_eq_true, if_false, Bool.not_true, Bool.not_false, mp_ft, mp_tf, isTy, beq_self_eq_true, isi0, isi1, isi2, isi3, isi4, isi5, isi6, isi7, isi8, isi9, isi10, isi11, isi12, isi13, isi14, isi15, isi16, isi17, isi18, isi19, isi20, isi21, isi22, isi23, isi24, isi25, isi26, isi27, isi28, isi29, isi30, isi31, isi32, isi33, isi34, isi35, isi36, isi37, isi38, isi39, isi40, isi41, onlyF, dIx_tup, dIx_lst, dIx_ref, ixAt_0, ixAt_1, ixAt_2, ixAt_3, iEq_int, iNe_int, dAdd, iAdd, iSub, iNeg, iCmp, iLe, iLt, iGe, iGt, dMul, iMulT, iMul, iMod, iDiv, gIx, setIx, decide_true, decide_false, decide_eq_true_eq, Bool.not_eq_true, List.length_map, isStep, isTupleOf, M_is_tuple_of, this]
  · exact .inr rfl

/-! is_row -/
theorem sc_is_row : FnScope ["thing", "size", "states", "step"] ["thing", "size", "states"] (defScope t_is_row) := ⟨rfl, rfl, rfl, by decide +kernel, rfl, by decide +kernel, by decide +kernel⟩
theorem bn_is_row : BindN "is_row" t_is_row ["thing", "size", "states"] := fun _ _ _ _ _ _ us hl => match us, hl with | [_, _, _], _ => rfl
noncomputable def b_is_row : MS := (sSeq (sIf (mOr (mNot (mTru (mCall M_is_tuple_of (mCons (mVar 0) (mCons (mK (.int 2)) mNil))))) (mNot (mTru (mCall M_is_tuple_of (mCons (mBin dIx (mVar 0) (mK (.int 1))) (mCons (mVar 1) mNil)))))) (sRet (mK (.bool false))) sNext) (sSeq (sIf (mAnd (mTest (mBin (dIs false) (mBin dIx (mVar 0) (mK (.int 0))) (mK .none))) (mNot (mTru (mCall M_is_between (mCons (mBin dIx (mVar 0) (mK (.int 0))) (mCons (mK (.int 1)) (mCons (mK (.int 60)) mNil))))))) (sRet (mK (.bool false))) sNext) (sRet (mCall fAll (mCons (mLc (mSeq (mBin dIx (mVar 0) (mK (.int 1)))) [3] (gSet 3) mYes (mCall M_is_step (mCons (mVar 3) (mCons (mVar 2) mNil))) kFrz) mNil)))))
theorem raw_is_row (N : Nm K mg) : DefOk P w K mg base "is_row" 5 3 (fnM 3 4 b_is_row) := def_mk N.d_is_row sc_is_row bn_is_row rfl rfl fun f cdv A outer s H E hr nd tk hp => (ss_cons (s_if (t_w (w_or (t_not (t_tru (e_callS (ok_is_tuple_of N) hr (by decide) tk (a_cons (e_var (i := 0)) (a_cons e_int a_nil)) (argN_cons (argN_cons argN_nil))))) (w_or1 (t_not (t_tru (e_callS (ok_is_tuple_of N) hr (by decide) tk (a_cons (e_ix (e_var (i := 0)) e_int) (a_cons (e_var (i := 1)) a_nil)) (argN_cons (argN_cons argN_nil)))))))) (ss_one (s_ret e_bool)) ss_nil) (ss_cons (s_if (t_w (w_and (t_cmp o_isnot (e_ix (e_var (i := 0)) e_int) e_none (nomark _)) (w_and1 (t_not (t_tru (e_callS (ok_is_between N) hr (by decide) tk (a_cons (e_ix (e_var (i := 0)) e_int) (a_cons e_int (a_cons (e_gint N.i_MOST_MORE) a_nil))) (argN_cons (argN_cons (argN_cons argN_nil))))))))) (ss_one (s_ret e_bool)) ss_nil) (ss_one (s_ret (e_bi (b_all rfl) rfl N.f_all bt_all (a_cons (e_lcF (own := [("step", 3)]) rfl nd (i_seq (e_ix (e_var (i := 0)) e_int)) (blkOk_by (N := ["thing", "size", "states", "step"]) (sc := defScope t_is_row) (own := [("step", 3)]) (by decide +kernel)) (tg_name (i := 3) (by decide)) (fun _ _ _ _ _ => pg_name (i := 3) nd rfl (by first | exact Or.inl rfl | exact Or.inr rfl)) (fun _ _ _ _ _ => c_no) (fun _ _ _ _ _ => (e_callS (ok_is_step N) hr (by decide) takes0 (a_cons (e_var (i := 3)) (a_cons (e_var (i := 2)) a_nil)) (argN_cons (argN_cons argN_nil))))) a_nil))))))
def M_is_row : List D → S → R D := fun ds s => match ds with
  | [.p x, .p (.int n), .p (.int q)] => if n ≤ 8 then .ok (.p (.bool (isRow x n q))) s else .bad
  | _ => .bad
theorem ok_is_row (N : Nm K mg) : DefOk P w K mg base "is_row" 5 3 M_is_row := (raw_is_row N).alone.eqv fun ds s => by
  unfold M_is_row
  split
  · rename_i x n q
    split
    · rename_i hn
      left
      cases x <;> try rfl
      rename_i ps
      rcases ps with _ | ⟨a, _ | ⟨b, _ | ⟨c, r⟩⟩⟩
      · rfl
      · rfl
      · cases b <;> try (simp [b_is_row, pureRun, onlyP, fnM, mVar, mK, mBin, mUn, mTru, mTest, mAnd, mOr, mNot, mAndV, mOrV, mNotV, mIf, mNil, mCons, mTup, mLst, mLstF, mCall, mChain, mIsi, fIsi, tyD, tyP, mSlice, oNo, oSome, mSeq, srcOf, mRange1, mRange2, sNext, sSeq, sIf, sRet, sRetN, sExpr, sSet, sAsg, sAug, sFor, sRaise, gSet, gMore, gNone, Mp.gTup, mMeth, fAppend, mEnum, srcEnum, mDNew, fLen, fInt, truth, ptruth, asB, pp1, pp2, ret1, dIs, isN, allP, frzD, mFrz, Mp.R.bind, R.thn, RS.seq, List.map_cons, List.map_nil, List.cons_append, List.nil_append, List.length_cons, List.length_nil, List.getElem?_cons_zero, List.getElem?_cons_succ, List.getElem?_nil, List.set_cons_zero, List.set_cons_succ, if_true, ite_true, Nat.reduceAdd, Nat.reduceSub, List.replicate, Bool.false_eq_true, if_false, Bool.not_true, Bool.not_false, mp_ft, mp_tf, isTy, beq_self_eq_true, isi0, isi1, isi2, isi3, isi4, isi5, isi6, isi7, isi8, isi9, isi10, isi11, isi12, isi13, isi14, isi15, isi16, isi17, isi18, isi19, isi20, isi21, isi22, isi23, isi24, isi25, isi26, isi27, isi28, isi29, isi30, isi31, isi32, isi33, isi34, isi35, isi36, isi37, isi38, isi39, isi40, isi41, onlyF, dIx_tup, dIx_lst, dIx_ref, ixAt_0, ixAt_1, ixAt_2, ixAt_3, iEq_int, iNe_int, dAdd, iAdd, iSub, iNeg, iCmp, iLe, iLt, iGe, iGt, dMul, iMulT, iMul, iMod, iDiv, gIx, setIx, decide_true, decide_false, decide_eq_true_eq, Bool.not_eq_true, List.length_map, isRow, isTupleOf, M_is_tuple_of]; done)
        rename_i ss
        by_cases hl : (ss.length : Int) = n
        · have hz : sizeOk ss.length = true := sizeOk_of (by omega)
          have e0 : ∀ e1 e2 w, lcL (Src.fix (ss.map D.p)).ok (gSet 3) mYes (mCall M_is_step (mCons (mVar 3) (mCons (mVar 2) mNil))) [e1, e2, some (.p (.int q)), none] (ss.map D.p) ⟨[], w⟩ = .ok (ss.map fun x => .p (.bool (isStep x q))) ⟨[], w⟩ := fun e1 e2 w => lc_map trivial fun x _ => by simp [pureRun, onlyP, fnM, mVar, mK, mBin, mUn, mTru, mTest, mAnd, mOr, mNot, mAndV, mOrV, mNotV, mIf, mNil, mCons, mTup, mLst, mLstF, mCall, mChain, mIsi, fIsi, tyD, tyP, mSlice, oNo, oSome, mSeq, srcOf, mRange1, mRange2, sNext, sSeq, sIf, sRet, sRetN, sExpr, sSet, sAsg, sAug, sFor, sRaise, gSet, gMore, gNone, Mp.gTup, mMeth, fAppend, mEnum, srcEnum, mDNew, fLen, fInt, truth, ptruth, asB, pp1, pp2, ret1, dIs, isN, allP, frzD, mFrz, Mp.R.bind, R.thn, RS.seq, List.map_cons, List.map_nil, List.cons_append, List.nil_append, List.length_cons, List.length_nil, List.getElem?_cons_zero, List.getElem?_cons_succ, List.getElem?_nil, List.set_cons_zero, List.set_cons_succ, if_true, ite_true, Nat.reduceAdd, Nat.reduceSub, List.replicate, Bool.false_eq_true, if_false, Bool.not_true, Bool.not_false, M_is_step]
          cases a <;> simp [b_is_row, pureRun, onlyP, fnM, mVar, mK, mBin, mUn, mTru, mTest, mAnd, mOr, mNot, mAndV, mOrV, mNotV, mIf, mNil, mCons, mTup, mLst, mLstF, mCall, mChain, mIsi, fIsi, tyD, tyP, mSlice, oNo, oSome, mSeq, srcOf, mRange1, mRange2, sNext, sSeq, sIf, sRet, sRetN, sExpr, sSet, sAsg, sAug, sFor, sRaise, gSet, gMore, gNone, Mp.gTup, mMeth, fAppend, mEnum, srcEnum, mDNew, fLen, fInt, truth, ptruth, asB, pp1, pp2, ret1, dIs, isN, allP, frzD, mFrz, Mp.R.bind, R.thn, RS.seq, List.map_cons, List.map_nil, List.cons_append, List.nil_append, List.length_cons, List.length_nil, List.getElem?_cons_zero, List.getElem?_cons_succ, List.getElem?_nil, List.set_cons_zero, List.set_cons_succ, if_true, ite_true, Nat.reduceAdd, Nat.reduceSub, List.replicate, Bool.false_eq_true, if_false, Bool.not_true, Bool.not_false, mp_ft, mp_tf, isTy, beq_self_eq_true, isi0, isi1, isi2, isi3, isi4, isi5, isi6, isi7, isi8, isi9, isi10, isi11, isi12, isi13, isi14, isi15, isi16, isi17, isi18, isi19, isi20, isi21, isi22, isi23, isi24, isi25, isi26, isi27, isi28, isi29, isi30, isi31, isi32, isi33, isi34, isi35, isi36, isi37, isi38, isi39, isi40, isi41, onlyF, dIx_tup, dIx_lst, dIx_ref, ixAt_0, ixAt_1, ixAt_2, ixAt_3, iEq_int, iNe_int, dAdd, iAdd, iSub, iNeg, iCmp, iLe, iLt, iGe, iGt, dMul, iMulT, iMul, iMod, iDiv, gIx, setIx, decide_true, decide_false, decide_eq_true_eq, Bool.not_eq_true, List.length_map, isRow, isTupleOf, M_is_tuple_of, hl, isFin, isBetween, M_is_between, mLc, wipeE, Src.items, hz, e0, kFrz, fAll, lstP, -List.map_map, allP_map, allB_map]
          rename_i i
          by_cases h : i < 1 ∨ 60 < i
          · have : ¬ (1 ≤ i ∧ i ≤ 60) := by omega
            simp [h]
            omega
          · have h1 : 1 ≤ i := by omega
            have h2 : i ≤ 60 := by omega
            simp [h, h1, h2, pureRun, onlyP, fnM, mVar, mK, mBin, mUn, mTru, mTest, mAnd, mOr, mNot, mAndV, mOrV, mNotV, mIf, mNil, mCons, mTup, mLst, mLstF, mCall, mChain, mIsi, fIsi, tyD, tyP, mSlice, oNo, oSome, mSeq, srcOf, mRange1, mRange2, sNext, sSeq, sIf, sRet, sRetN, sExpr, sSet, sAsg, sAug, sFor, sRaise, gSet, gMore, gNone, Mp.gTup, mMeth, fAppend, mEnum, srcEnum, mDNew, fLen, fInt, truth, ptruth, asB, pp1, pp2, ret1, dIs, isN, allP, frzD, mFrz, Mp.R.bind, R.thn, RS.seq, List.map_cons, List.map_nil, List.cons_append, List.nil_append, List.length_cons, List.length_nil, List.getElem?_cons_zero, List.getElem?_cons_succ, List.getElem?_nil, List.set_cons_zero, List.set_cons_succ, if_true, ite_true, Nat.reduceAdd, Nat.reduceSub, List.replicate, Bool.false_eq_true, if_false, Bool.not_true, Bool.not_false, mp_ft, mp_tf, isTy, beq_self_eq_true, isi0, isi1, isi2, isi3, isi4, isi5, isi6, isi7, isi8, isi9, isi10, isi11, isi12, isi13, isi14, isi15, isi16, isi17, isi18, isi19, isi20, isi21, isi22, isi23, isi24, isi25, isi26, isi27, isi28, isi29, isi30, isi31, isi32, isi33, isi34, isi35, isi36, isi37, isi38, isi39, isi40, isi41, onlyF, dIx_tup, dIx_lst, dIx_ref, ixAt_0, ixAt_1, ixAt_2, ixAt_3, iEq_int, iNe_int, dAdd, iAdd, iSub, iNeg, iCmp, iLe, iLt, iGe, iGt, dMul, iMulT, iMul, iMod, iDiv, gIx, setIx, decide_true, decide_false, decide_eq_true_eq, Bool.not_eq_true, List.length_map, mLc, wipeE, Src.items, hz, e0, kFrz, fAll, lstP, -List.map_map, allP_map, allB_map]
        · simp [b_is_row, pureRun, onlyP, fnM, mVar, mK, mBin, mUn, mTru, mTest, mAnd, mOr, mNot, mAndV, mOrV, mNotV, mIf, mNil, mCons, mTup, mLst, mLstF, mCall, mChain, mIsi, fIsi, tyD, tyP, mSlice, oNo, oSome, mSeq, srcOf, mRange1, mRange2, sNext, sSeq, sIf, sRet, sRetN, sExpr, sSet, sAsg, sAug, sFor, sRaise, gSet, gMore, gNone, Mp.gTup, mMeth, fAppend, mEnum, srcEnum, mDNew, fLen, fInt, truth, ptruth, asB, pp1, pp2, ret1, dIs, isN, allP, frzD, mFrz, Mp.R.bind, R.thn, RS.seq, List.map_cons, List.map_nil, List.cons_append, List.nil_append, List.length_cons, List.length_nil, List.getElem?_cons_zero, List.getElem?_cons_succ, List.getElem?_nil, List.set_cons_zero, List.set_cons_succ, if_true, ite_true, Nat.reduceAdd, Nat.reduceSub, List.replicate, Bool.false_eq_true, if_false, Bool.not_true, Bool.not_false, mp_ft, mp_tf, isTy, beq_self_eq_true, isi0, isi1, isi2, isi3, isi4, isi5, isi6, isi7, isi8, isi9, isi10, isi11, isi12, isi13, isi14, isi15, isi16, isi17, isi18, isi19, isi20, isi21, isi22, isi23, isi24, isi25, isi26, isi27, isi28, isi29, isi30, isi31, isi32, isi33, isi34, isi35, isi36, isi37, isi38, isi39, isi40, isi41, onlyF, dIx_tup, dIx_lst, dIx_ref, ixAt_0, ixAt_1, ixAt_2, ixAt_3, iEq_int, iNe_int, dAdd, iAdd, iSub, iNeg, iCmp, iLe, iLt, iGe, iGt, dMul, iMulT, iMul, iMod, iDiv, gIx, setIx, decide_true, decide_false, decide_eq_true_eq, Bool.not_eq_true, List.length_map, isRow, isTupleOf, M_is_tuple_of, hl]
      · have : ¬ ((r.length : Int) + 1 + 1 + 1 = 2) := by omega
        simp [b_is_row, pureRun, onlyP, fnM, mVar, mK, mBin, mUn, mTru, mTest, mAnd, mOr, mNot, mAndV, mOrV, mNotV, mIf, mNil, mCons, mTup, mLst, mLstF, mCall, mChain, mIsi, fIsi, tyD, tyP, mSlice, oNo, oSome, mSeq, srcOf, mRange1, mRange2, sNext, sSeq, sIf, sRet, sRetN, sExpr, sSet, sAsg, sAug, sFor, sRaise, gSet, gMore, gNone, Mp.gTup, mMeth, fAppend, mEnum, srcEnum, mDNew, fLen, fInt, truth, ptruth, asB, pp1, pp2, ret1, dIs, isN, allP, frzD, mFrz, Mp.R.bind, R.thn, RS.seq, List.map_cons, List.map_nil, List.cons_append, List.nil_append, List.length_cons, List.length_nil, List.getElem?_cons_zero, List.getElem?_cons_succ, List.getElem?_nil, List.set_cons_zero, List.set_cons_succ, if_true, ite_true, Nat.reduceAdd, Nat.reduceSub, List.replicate, Bool.false_eq_true, if_false, Bool.not_true, Bool.not_false, mp_ft, mp_tf, isTy, beq_self_eq_true, isi0, isi1, isi2, isi3, isi4, isi5, isi6, isi7, isi8, isi9, isi10, isi11, isi12, isi13, isi14, isi15, isi16, isi17, isi18, isi19, isi20, isi21, isi22, isi23, isi24, isi25, isi26, isi27, isi28, isi29, isi30, isi31, isi32, isi33, isi34, isi35, isi36, isi37, isi38, isi39, isi40, isi41, onlyF, dIx_tup, dIx_lst, dIx_ref, ixAt_0, ixAt_1, ixAt_2, ixAt_3, iEq_int, iNe_int, dAdd, iAdd, iSub, iNeg, iCmp, iLe, iLt, iGe, iGt, dMul, iMulT, iMul, iMod, iDiv, gIx, setIx, decide_true, decide_false, decide_eq_true_eq, Bool.not_eq_true, List.length_map, isRow, isTupleOf, M_is_tuple_of, this]
    · exact .inr rfl
  · exact .inr rfl

/-! is_machine -/
theorem sc_is_machine : FnScope ["thing", "states", "row"] ["thing"] (defScope t_is_machine) := ⟨rfl, rfl, rfl, by decide +kernel, rfl, by decide +kernel, by decide +kernel⟩
theorem bn_is_machine : BindN "is_machine" t_is_machine ["thing"] := fun _ _ _ _ _ _ us hl => match us, hl with | [_], _ => rfl
noncomputable def b_is_machine : MS := (sSeq (sIf (mOr (mNot (mTru (mCall M_is_tuple_of (mCons (mVar 0) (mCons (mK (.int 2)) mNil))))) (mOr (mNot (mTru (mCall M_is_size (mCons (mBin dIx (mVar 0) (mK (.int 0))) mNil)))) (mNot (mTru (mIsi "tuple" (mBin dIx (mVar 0) (mK (.int 1)))))))) (sRet (mK (.bool false))) sNext) (sSeq (sSet 1 (mCall fLen (mCons (mBin dIx (mVar 0) (mK (.int 1))) mNil))) (sRet (mAndV (mChain (pp2 iLe) (pp2 iLe) (mK (.int 1)) (mVar 1) (mK (.int 30))) (mCall fAll (mCons (mLc (mSeq (mBin dIx (mVar 0) (mK (.int 1)))) [2] (gSet 2) mYes (mCall M_is_row (mCons (mVar 2) (mCons (mBin dIx (mVar 0) (mK (.int 0))) (mCons (mVar 1) mNil)))) kFrz) mNil))))))
theorem raw_is_machine (N : Nm K mg) : DefOk P w K mg base "is_machine" 6 1 (fnM 1 3 b_is_machine) := def_mk N.d_is_machine sc_is_machine bn_is_machine rfl rfl fun f cdv A outer s H E hr nd tk hp => (ss_cons (s_if (t_w (w_or (t_not (t_tru (e_callS (ok_is_tuple_of N) hr (by decide) tk (a_cons (e_var (i := 0)) (a_cons e_int a_nil)) (argN_cons (argN_cons argN_nil))))) (w_or (t_not (t_tru (e_callS (ok_is_size N) hr (by decide) tk (a_cons (e_ix (e_var (i := 0)) (e_gint N.i_SIZE)) a_nil) (argN_cons argN_nil)))) (w_or1 (t_not (t_tru (e_isi (T := "tuple") (by decide) rfl N.f_isinstance rfl N.f_tuple bt_tuple (e_ix (e_var (i := 0)) (e_gint N.i_ROWS))))))))) (ss_one (s_ret e_bool)) ss_nil) (ss_cons (s_set (i := 1) nd (e_bi b_len rfl N.f_len bt_len (a_cons (e_ix (e_var (i := 0)) (e_gint N.i_ROWS)) a_nil))) (ss_one (s_ret (e_and (e_chain o_leP o_leP e_int (e_var (i := 1)) (e_gint N.i_MOST_STATES)) (e_one (e_bi (b_all rfl) rfl N.f_all bt_all (a_cons (e_lcF (own := [("row", 2)]) rfl nd (i_seq (e_ix (e_var (i := 0)) (e_gint N.i_ROWS))) (blkOk_by (N := ["thing", "states", "row"]) (sc := defScope t_is_machine) (own := [("row", 2)]) (by decide +kernel)) (tg_name (i := 2) (by decide)) (fun _ _ _ _ _ => pg_name (i := 2) nd rfl (by first | exact Or.inl rfl | exact Or.inr rfl)) (fun _ _ _ _ _ => c_no) (fun _ _ _ _ _ => (e_callS (ok_is_row N) hr (by decide) takes0 (a_cons (e_var (i := 2)) (a_cons (e_ix (e_var (i := 0)) (e_gint N.i_SIZE)) (a_cons (e_var (i := 1)) a_nil))) (argN_cons (argN_cons (argN_cons argN_nil)))))) a_nil))))))))
def M_is_machine : List D → S → R D := fun ds s => match ds with
  | [.p x] => .ok (.p (.bool (isMachine x))) s
  | _ => .bad
theorem ok_is_machine (N : Nm K mg) : DefOk P w K mg base "is_machine" 6 1 M_is_machine := (raw_is_machine N).alone.eqv fun ds s => by
  unfold M_is_machine
  split
  · rename_i x
    left
    cases x <;> try rfl
    rename_i ps
    rcases ps with _ | ⟨a, _ | ⟨b, _ | ⟨c, r⟩⟩⟩
    · rfl
    · cases a <;> rfl
    · cases a <;> try (simp [b_is_machine, pureRun, onlyP, fnM, mVar, mK, mBin, mUn, mTru, mTest, mAnd, mOr, mNot, mAndV, mOrV, mNotV, mIf, mNil, mCons, mTup, mLst, mLstF, mCall, mChain, mIsi, fIsi, tyD, tyP, mSlice, oNo, oSome, mSeq, srcOf, mRange1, mRange2, sNext, sSeq, sIf, sRet, sRetN, sExpr, sSet, sAsg, sAug, sFor, sRaise, gSet, gMore, gNone, Mp.gTup, mMeth, fAppend, mEnum, srcEnum, mDNew, fLen, fInt, truth, ptruth, asB, pp1, pp2, ret1, dIs, isN, allP, frzD, mFrz, Mp.R.bind, R.thn, RS.seq, List.map_cons, List.map_nil, List.cons_append, List.nil_append, List.length_cons, List.length_nil, List.getElem?_cons_zero, List.getElem?_cons_succ, List.getElem?_nil, List.set_cons_zero, List.set_cons_succ, if_true, ite_true, Nat.reduceAdd, Nat.reduceSub, List.replicate, Bool.false_eq_true, if_false, Bool.not_true, Bool.not_false, mp_ft, mp_tf, isTy, beq_self_eq_true, isi0, isi1, isi2, isi3, isi4, isi5, isi6, isi7, isi8, isi9, isi10, isi11, isi12, isi13, isi14, isi15, isi16, isi17, isi18, isi19, isi20, isi21, isi22, isi23, isi24, isi25, isi26, isi27, isi28, isi29, isi30, isi31, isi32, isi33, isi34, isi35, isi36, isi37, isi38, isi39, isi40, isi41, onlyF, dIx_tup, dIx_lst, dIx_ref, ixAt_0, ixAt_1, ixAt_2, ixAt_3, iEq_int, iNe_int, dAdd, iAdd, iSub, iNeg, iCmp, iLe, iLt, iGe, iGt, dMul, iMulT, iMul, iMod, iDiv, gIx, setIx, decide_true, decide_false, decide_eq_true_eq, Bool.not_eq_true, List.length_map, isMachine, isTupleOf, M_is_tuple_of, M_is_size, isBetween, isi0]; done)
      rename_i n
      by_cases hn : 1 ≤ n ∧ n ≤ 8
      · cases b <;> try (simp [b_is_machine, pureRun, onlyP, fnM, mVar, mK, mBin, mUn, mTru, mTest, mAnd, mOr, mNot, mAndV, mOrV, mNotV, mIf, mNil, mCons, mTup, mLst, mLstF, mCall, mChain, mIsi, fIsi, tyD, tyP, mSlice, oNo, oSome, mSeq, srcOf, mRange1, mRange2, sNext, sSeq, sIf, sRet, sRetN, sExpr, sSet, sAsg, sAug, sFor, sRaise, gSet, gMore, gNone, Mp.gTup, mMeth, fAppend, mEnum, srcEnum, mDNew, fLen, fInt, truth, ptruth, asB, pp1, pp2, ret1, dIs, isN, allP, frzD, mFrz, Mp.R.bind, R.thn, RS.seq, List.map_cons, List.map_nil, List.cons_append, List.nil_append, List.length_cons, List.length_nil, List.getElem?_cons_zero, List.getElem?_cons_succ, List.getElem?_nil, List.set_cons_zero, List.set_cons_succ, if_true, ite_true, Nat.reduceAdd, Nat.reduceSub, List.replicate, Bool.false_eq_true, if_false, Bool.not_true, Bool.not_false, mp_ft, mp_tf, isTy, beq_self_eq_true, isi0, isi1, isi2, isi3, isi4, isi5, isi6, isi7, isi8, isi9, isi10, isi11, isi12, isi13, isi14, isi15, isi16, isi17, isi18, isi19, isi20, isi21, isi22, isi23, isi24, isi25, isi26, isi27, isi28, isi29, isi30, isi31, isi32, isi33, isi34, isi35, isi36, isi37, isi38, isi39, isi40, isi41, onlyF, dIx_tup, dIx_lst, dIx_ref, ixAt_0, ixAt_1, ixAt_2, ixAt_3, iEq_int, iNe_int, dAdd, iAdd, iSub, iNeg, iCmp, iLe, iLt, iGe, iGt, dMul, iMulT, iMul, iMod, iDiv, gIx, setIx, decide_true, decide_false, decide_eq_true_eq, Bool.not_eq_true, List.length_map, isMachine, isTupleOf, M_is_tuple_of, M_is_size, isBetween, hn]; done)
        rename_i ss
        by_cases hl : 1 ≤ ss.length ∧ ss.length ≤ 30
        · have hz : sizeOk ss.length = true := sizeOk_of (by omega)
          have h1 : (1:Int) ≤ (ss.length : Int) := by omega
          have h2 : (ss.length : Int) ≤ 30 := by omega
          have e0 : ∀ w, lcL (Src.fix (ss.map D.p)).ok (gSet 2) mYes (mCall M_is_row (mCons (mVar 2) (mCons (mBin dIx (mVar 0) (mK (.int 0))) (mCons (mVar 1) mNil)))) [some (.p (.tuple [.int n, .tuple ss])), some (.p (.int ss.length)), none] (ss.map D.p) ⟨[], w⟩ = .ok (ss.map fun x => .p (.bool (isRow x n ss.length))) ⟨[], w⟩ := fun w => lc_map trivial fun x _ => by simp [pureRun, onlyP, fnM, mVar, mK, mBin, mUn, mTru, mTest, mAnd, mOr, mNot, mAndV, mOrV, mNotV, mIf, mNil, mCons, mTup, mLst, mLstF, mCall, mChain, mIsi, fIsi, tyD, tyP, mSlice, oNo, oSome, mSeq, srcOf, mRange1, mRange2, sNext, sSeq, sIf, sRet, sRetN, sExpr, sSet, sAsg, sAug, sFor, sRaise, gSet, gMore, gNone, Mp.gTup, mMeth, fAppend, mEnum, srcEnum, mDNew, fLen, fInt, truth, ptruth, asB, pp1, pp2, ret1, dIs, isN, allP, frzD, mFrz, Mp.R.bind, R.thn, RS.seq, List.map_cons, List.map_nil, List.cons_append, List.nil_append, List.length_cons, List.length_nil, List.getElem?_cons_zero, List.getElem?_cons_succ, List.getElem?_nil, List.set_cons_zero, List.set_cons_succ, if_true, ite_true, Nat.reduceAdd, Nat.reduceSub, List.replicate, Bool.false_eq_true, if_false, Bool.not_true, Bool.not_false, mp_ft, mp_tf, isTy, beq_self_eq_true, isi0, isi1, isi2, isi3, isi4, isi5, isi6, isi7, isi8, isi9, isi10, isi11, isi12, isi13, isi14, isi15, isi16, isi17, isi18, isi19, isi20, isi21, isi22, isi23, isi24, isi25, isi26, isi27, isi28, isi29, isi30, isi31, isi32, isi33, isi34, isi35, isi36, isi37, isi38, isi39, isi40, isi41, onlyF, dIx_tup, dIx_lst, dIx_ref, ixAt_0, ixAt_1, ixAt_2, ixAt_3, iEq_int, iNe_int, dAdd, iAdd, iSub, iNeg, iCmp, iLe, iLt, iGe, iGt, dMul, iMulT, iMul, iMod, iDiv, gIx, setIx, decide_true, decide_false, decide_eq_true_eq, Bool.not_eq_true, List.length_map, M_is_row, hn]
          simp [b_is_machine, pureRun, onlyP, fnM, mVar, mK, mBin, mUn, mTru, mTest, mAnd, mOr, mNot, mAndV, mOrV, mNotV, mIf, mNil, mCons, mTup, mLst, mLstF, mCall, mChain, mIsi, fIsi, tyD, tyP, mSlice, oNo, oSome, mSeq, srcOf, mRange1, mRange2, sNext, sSeq, sIf, sRet, sRetN, sExpr, sSet, sAsg, sAug, sFor, sRaise, gSet, gMore, gNone, Mp.gTup, mMeth, fAppend, mEnum, srcEnum, mDNew, fLen, fInt, truth, ptruth, asB, pp1, pp2, ret1, dIs, isN, allP, frzD, mFrz, Mp.R.bind, R.thn, RS.seq, List.map_cons, List.map_nil, List.cons_append, List.nil_append, List.length_cons, List.length_nil, List.getElem?_cons_zero, List.getElem?_cons_succ, List.getElem?_nil, List.set_cons_zero, List.set_cons_succ, if_true, ite_true, Nat.reduceAdd, Nat.reduceSub, List.replicate, Bool.false_eq_true, if_false, Bool.not_true, Bool.not_false, mp_ft, mp_tf, isTy, beq_self_eq_true, isi0, isi1, isi2, isi3, isi4, isi5, isi6, isi7, isi8, isi9, isi10, isi11, isi12, isi13, isi14, isi15, isi16, isi17, isi18, isi19, isi20, isi21, isi22, isi23, isi24, isi25, isi26, isi27, isi28, isi29, isi30, isi31, isi32, isi33, isi34, isi35, isi36, isi37, isi38, isi39, isi40, isi41, onlyF, dIx_tup, dIx_lst, dIx_ref, ixAt_0, ixAt_1, ixAt_2, ixAt_3, iEq_int, iNe_int, dAdd, iAdd, iSub, iNeg, iCmp, iLe, iLt, iGe, iGt, dMul, iMulT, iMul, iMod, iDiv, gIx, setIx, decide_true, decide_false, decide_eq_true_eq, Bool.not_eq_true, List.length_map, isMachine, isTupleOf, M_is_tuple_of, M_is_size, isBetween, hn, mLc, wipeE, Src.items, hz, e0, kFrz, fAll, lstP, -List.map_map, allP_map, allB_map, h1, h2, hl]
        · by_cases h1 : 1 ≤ ss.length
          · have h1' : (1:Int) ≤ (ss.length : Int) := by omega
            have h2' : ¬ ((ss.length : Int) ≤ 30) := by omega
            simp [b_is_machine, pureRun, onlyP, fnM, mVar, mK, mBin, mUn, mTru, mTest, mAnd, mOr, mNot, mAndV, mOrV, mNotV, mIf, mNil, mCons, mTup, mLst, mLstF, mCall, mChain, mIsi, fIsi, tyD, tyP, mSlice, oNo, oSome, mSeq, srcOf, mRange1, mRange2, sNext, sSeq, sIf, sRet, sRetN, sExpr, sSet, sAsg, sAug, sFor, sRaise, gSet, gMore, gNone, Mp.gTup, mMeth, fAppend, mEnum, srcEnum, mDNew, fLen, fInt, truth, ptruth, asB, pp1, pp2, ret1, dIs, isN, allP, frzD, mFrz, Mp.R.bind, R.thn, RS.seq, List.map_cons, List.map_nil, List.cons_append, List.nil_append, List.length_cons, List.length_nil, List.getElem?_cons_zero, List.getElem?_cons_succ, List.getElem?_nil, List.set_cons_zero, List.set_cons_succ, if_true, ite_true, Nat.reduceAdd, Nat.reduceSub, List.replicate, Bool.false_eq_true, if_false, Bool.not_true, Bool.not_false, mp_ft, mp_tf, isTy, beq_self_eq_true, isi0, isi1, isi2, isi3, isi4, isi5, isi6, isi7, isi8, isi9, isi10, isi11, isi12, isi13, isi14, isi15, isi16, isi17, isi18, isi19, isi20, isi21, isi22, isi23, isi24, isi25, isi26, isi27, isi28, isi29, isi30, isi31, isi32, isi33, isi34, isi35, isi36, isi37, isi38, isi39, isi40, isi41, onlyF, dIx_tup, dIx_lst, dIx_ref, ixAt_0, ixAt_1, ixAt_2, ixAt_3, iEq_int, iNe_int, dAdd, iAdd, iSub, iNeg, iCmp, iLe, iLt, iGe, iGt, dMul, iMulT, iMul, iMod, iDiv, gIx, setIx, decide_true, decide_false, decide_eq_true_eq, Bool.not_eq_true, List.length_map, isMachine, isTupleOf, M_is_tuple_of, M_is_size, isBetween, hn, h1', h2', hl]
          · have h1' : ¬ ((1:Int) ≤ (ss.length : Int)) := by omega
            simp [b_is_machine, pureRun, onlyP, fnM, mVar, mK, mBin, mUn, mTru, mTest, mAnd, mOr, mNot, mAndV, mOrV, mNotV, mIf, mNil, mCons, mTup, mLst, mLstF, mCall, mChain, mIsi, fIsi, tyD, tyP, mSlice, oNo, oSome, mSeq, srcOf, mRange1, mRange2, sNext, sSeq, sIf, sRet, sRetN, sExpr, sSet, sAsg, sAug, sFor, sRaise, gSet, gMore, gNone, Mp.gTup, mMeth, fAppend, mEnum, srcEnum, mDNew, fLen, fInt, truth, ptruth, asB, pp1, pp2, ret1, dIs, isN, allP, frzD, mFrz, Mp.R.bind, R.thn, RS.seq, List.map_cons, List.map_nil, List.cons_append, List.nil_append, List.length_cons, List.length_nil, List.getElem?_cons_zero, List.getElem?_cons_succ, List.getElem?_nil, List.set_cons_zero, List.set_cons_succ, if_true, ite_true, Nat.reduceAdd, Nat.reduceSub, List.replicate, Bool.false_eq_true, if_false, Bool.not_true, Bool.not_false, mp_ft, mp_tf, isTy, beq_self_eq_true, isi0, isi1, isi2, isi3, isi4, isi5, isi6, isi7, isi8, isi9, isi10, isi11, isi12, isi13, isi14, isi15, isi16, isi17, isi18, isi19, isi20, isi21, isi22, isi23, isi24, isi25, isi26, isi27, isi28, isi29, isi30, isi31, isi32, isi33, isi34, isi35, isi36, isi37, isi38, isi39, isi40, isi41, onlyF, dIx_tup, dIx_lst, dIx_ref, ixAt_0, ixAt_1, ixAt_2, ixAt_3, iEq_int, iNe_int, dAdd, iAdd, iSub, iNeg, iCmp, iLe, iLt, iGe, iGt, dMul, iMulT, iMul, iMod, iDiv, gIx, setIx, decide_true, decide_false, decide_eq_true_eq, Bool.not_eq_true, List.length_map, isMachine, isTupleOf, M_is_tuple_of, M_is_size, isBetween, hn, h1', hl]
      · have hn' : n < 1 ∨ 8 < n := by omega
        cases b <;> simp [b_is_machine, pureRun, onlyP, fnM, mVar, mK, mBin, mUn, mTru, mTest, mAnd, mOr, mNot, mAndV, mOrV, mNotV, mIf, mNil, mCons, mTup, mLst, mLstF, mCall, mChain, mIsi, fIsi, tyD, tyP, mSlice, oNo, oSome, mSeq, srcOf, mRange1, mRange2, sNext, sSeq, sIf, sRet, sRetN, sExpr, sSet, sAsg, sAug, sFor, sRaise, gSet, gMore, gNone, Mp.gTup, mMeth, fAppend, mEnum, srcEnum, mDNew, fLen, fInt, truth, ptruth, asB, pp1, pp2, ret1, dIs, isN, allP, frzD, mFrz, Mp.R.bind, R.thn, RS.seq, List.map_cons, List.map_nil, List.cons_append, List.nil_append, List.length_cons, List.length_nil, List.getElem?_cons_zero, List.getElem?_cons_succ, List.getElem?_nil, List.set_cons_zero, List.set_cons_succ, if_true, ite_true, Nat.reduceAdd, Nat.reduceSub, List.replicate, Bool.false_eq_true, if_false, Bool.not_true, Bool.not_false, mp_ft, mp_tf, isTy, beq_self_eq_true, isi0, isi1, isi2, isi3, isi4, isi5, isi6, isi7, isi8, isi9, isi10, isi11, isi12, isi13, isi14, isi15, isi16, isi17, isi18, isi19, isi20, isi21, isi22, isi23, isi24, isi25, isi26, isi27, isi28, isi29, isi30, isi31, isi32, isi33, isi34, isi35, isi36, isi37, isi38, isi39, isi40, isi41, onlyF, dIx_tup, dIx_lst, dIx_ref, ixAt_0, ixAt_1, ixAt_2, ixAt_3, iEq_int, iNe_int, dAdd, iAdd, iSub, iNeg, iCmp, iLe, iLt, iGe, iGt, dMul, iMulT, iMul, iMod, iDiv, gIx, setIx, decide_true, decide_false, decide_eq_true_eq, Bool.not_eq_true, List.length_map, isMachine, isTupleOf, M_is_tuple_of, M_is_size, isBetween, hn']
        omega
    · have : ¬ ((r.length : Int) + 1 + 1 + 1 = 2) := by omega
      simp [b_is_machine, pureRun, onlyP, fnM, mVar, mK, mBin, mUn, mTru, mTest, mAnd, mOr, mNot, mAndV, mOrV, mNotV, mIf, mNil, mCons, mTup, mLst, mLstF, mCall, mChain, mIsi, fIsi, tyD, tyP, mSlice, oNo, oSome, mSeq, srcOf, mRange1, mRange2, sNext, sSeq, sIf, sRet, sRetN, sExpr, sSet, sAsg, sAug, sFor, sRaise, gSet, gMore, gNone, Mp.gTup, mMeth, fAppend, mEnum, srcEnum, mDNew, fLen, fInt, truth, ptruth, asB, pp1, pp2, ret1, dIs, isN, allP, frzD, mFrz, Mp.R.bind, R.thn, RS.seq, List.map_cons, List.map_nil, List.cons_append, List.nil_append, List.length_cons, List.length_nil, List.getElem?_cons_zero, List.getElem?_cons_succ, List.getElem?_nil, List.set_cons_zero, List.set_cons_succ, if_true, ite_true, Nat.reduceAdd, Nat.reduceSub, List.replicate, Bool.false_eq_true, if_false, Bool.not_true, Bool.not_false, mp_ft, mp_tf, isTy, beq_self_eq_true, isi0, isi1, isi2, isi3, isi4, isi5, isi6, isi7, isi8, isi9, isi10, isi11, isi12, isi13, isi14, isi15, isi16, isi17, isi18, isi19, isi20, isi21, isi22, isi23, isi24, isi25, isi26, isi27, isi28, isi29, isi30, isi31, isi32, isi33, isi34, isi35, isi36, isi37, isi38, isi39, isi40, isi41, onlyF, dIx_tup, dIx_lst, dIx_ref, ixAt_0, ixAt_1, ixAt_2, ixAt_3, iEq_int, iNe_int, dAdd, iAdd, iSub, iNeg, iCmp, iLe, iLt, iGe, iGt, dMul, iMulT, iMul, iMod, iDiv, gIx, setIx, decide_true, decide_false, decide_eq_true_eq, Bool.not_eq_true, List.length_map, isMachine, isTupleOf, M_is_tuple_of, this]
  · exact .inr rfl

/-! check_machine -/
theorem sc_check_machine : FnScope ["thing"] ["thing"] (defScope t_check_machine) := ⟨rfl, rfl, rfl, by decide +kernel, rfl, by decide +kernel, by decide +kernel⟩
theorem bn_check_machine : BindN "check_machine" t_check_machine ["thing"] := fun _ _ _ _ _ _ us hl => match us, hl with | [_], _ => rfl
noncomputable def b_check_machine : MS := (sIf (mNot (mTru (mCall M_is_machine (mCons (mVar 0) mNil)))) (sRaise "NoMachine") sNext)
theorem raw_check_machine (N : Nm K mg) : DefOk P w K mg base "check_machine" 7 1 (fnM 1 1 b_check_machine) := def_mk N.d_check_machine sc_check_machine bn_check_machine rfl rfl fun f cdv A outer s H E hr nd tk hp => (ss_one (s_if (t_not (t_tru (e_callS (ok_is_machine N) hr (by decide) tk (a_cons (e_var (i := 0)) a_nil) (argN_cons argN_nil)))) (ss_one (s_raiseX N.x_NoMachine tk)) ss_nil))
def M_check_machine : List D → S → R D := fun ds s => match ds with
  | [.p x] => if isMachine x then .ok (.p .none) s else .ex "NoMachine" [] s
  | _ => .bad
theorem ok_check_machine (N : Nm K mg) : DefOk P w K mg base "check_machine" 7 1 M_check_machine := (raw_check_machine N).alone.eqv fun ds s => by
  unfold M_check_machine
  split
  · rename_i x
    left
    cases h : isMachine x <;> simp [b_check_machine, pureRun, onlyP, fnM, mVar, mK, mBin, mUn, mTru, mTest, mAnd, mOr, mNot, mAndV, mOrV, mNotV, mIf, mNil, mCons, mTup, mLst, mLstF, mCall, mChain, mIsi, fIsi, tyD, tyP, mSlice, oNo, oSome, mSeq, srcOf, mRange1, mRange2, sNext, sSeq, sIf, sRet, sRetN, sExpr, sSet, sAsg, sAug, sFor, sRaise, gSet, gMore, gNone, Mp.gTup, mMeth, fAppend, mEnum, srcEnum, mDNew, fLen, fInt, truth, ptruth, asB, pp1, pp2, ret1, dIs, isN, allP, frzD, mFrz, Mp.R.bind, R.thn, RS.seq, List.map_cons, List.map_nil, List.cons_append, List.nil_append, List.length_cons, List.length_nil, List.getElem?_cons_zero, List.getElem?_cons_succ, List.getElem?_nil, List.set_cons_zero, List.set_cons_succ, if_true, ite_true, Nat.reduceAdd, Nat.reduceSub, List.replicate, Bool.false_eq_true, if_false, Bool.not_true, Bool.not_false, mp_ft, mp_tf, isTy, beq_self_eq_true, isi0, isi1, isi2, isi3, isi4, isi5, isi6, isi7, isi8, isi9, isi10, isi11, isi12, isi13, isi14, isi15, isi16, isi17, isi18, isi19, isi20, isi21, isi22, isi23, isi24, isi25, isi26, isi27, isi28, isi29, isi30, isi31, isi32, isi33, isi34, isi35, isi36, isi37, isi38, isi39, isi40, isi41, onlyF, dIx_tup, dIx_lst, dIx_ref, ixAt_0, ixAt_1, ixAt_2, ixAt_3, iEq_int, iNe_int, dAdd, iAdd, iSub, iNeg, iCmp, iLe, iLt, iGe, iGt, dMul, iMulT, iMul, iMod, iDiv, gIx, setIx, decide_true, decide_false, decide_eq_true_eq, Bool.not_eq_true, List.length_map, M_is_machine, h, onlyF]
  · exact .inr rfl

/-! raw_length -/
theorem sc_raw_length : FnScope ["machine", "text", "state", "found", "letter", "step", "end"] ["machine", "text"] (defScope t_raw_length) := ⟨rfl, rfl, rfl, by decide +kernel, rfl, by decide +kernel, by decide +kernel⟩
theorem bn_raw_length : BindN "raw_length" t_raw_length ["machine", "text"] := fun _ _ _ _ _ _ us hl => match us, hl with | [_, _], _ => rfl
noncomputable def b_raw_length : MS := (sSeq (sAsg (mTup (mCons (mK (.int 0)) (mCons (mK (.int 0)) mNil))) (gTup 2 (gMore (gSet 2) (gMore (gSet 3) gNone)))) (sSeq (sFor (mSeq (mVar 1)) (gSet 4) (sSeq (sSet 5 (mBin dIx (mBin dIx (mBin dIx (mBin dIx (mVar 0) (mK (.int 1))) (mVar 2)) (mK (.int 1))) (mVar 4))) (sSeq (sIf (mTest (mBin (dIs true) (mVar 5) (mK .none))) (sRet (mK .none)) sNext) (sSeq (sAug 3 (pp2 iAdd) (mBin dIx (mVar 5) (mK (.int 0)))) (sSet 2 (mBin dIx (mVar 5) (mK (.int 1)))))))) (sSeq (sSet 6 (mBin dIx (mBin dIx (mBin dIx (mVar 0) (mK (.int 1))) (mVar 2)) (mK (.int 0)))) (sRet (mIf (mTest (mBin (dIs true) (mVar 6) (mK .none))) (mK .none) (mBin dAdd (mVar 3) (mVar 6)))))))
theorem raw_raw_length (N : Nm K mg) : DefOk P w K mg base "raw_length" 1 2 (fnM 2 7 b_raw_length) := def_mk N.d_raw_length sc_raw_length bn_raw_length rfl rfl fun f cdv A outer s H E hr nd tk hp => (ss_cons (s_asg (e_tup (a_cons e_int (a_cons e_int a_nil))) (g_tup rfl (gs_cons (g_name (i := 2) nd) (gs_cons (g_name (i := 3) nd) gs_nil QuietG.none) (QuietG.more Quiet1.set QuietG.none)))) (ss_cons (s_for hp rfl (i_seq (e_var (i := 1))) (g_name (i := 4) nd) (ss_cons (s_set (i := 5) nd (e_ix (e_ix (e_ix (e_ix (e_var (i := 0)) (e_gint N.i_ROWS)) (e_var (i := 2))) e_int) (e_var (i := 4)))) (ss_cons (s_if (t_cmp o_is (e_var (i := 5)) e_none (nomark _)) (ss_one (s_ret e_none)) ss_nil) (ss_cons (s_aug (i := 3) nd o_iaddP (e_ix (e_var (i := 5)) e_int)) (ss_one (s_set (i := 2) nd (e_ix (e_var (i := 5)) e_int))))))) (ss_cons (s_set (i := 6) nd (e_ix (e_ix (e_ix (e_var (i := 0)) (e_gint N.i_ROWS)) (e_var (i := 2))) e_int)) (ss_one (s_ret (e_if (t_cmp o_is (e_var (i := 6)) e_none (nomark _)) e_none (e_bin o_add (e_var (i := 3)) (e_var (i := 6)))))))))
theorem Mx_raw_length : ∃ f : List D → S → R D, f = pureRun (fnM 2 7 b_raw_length) := ⟨_, rfl⟩
noncomputable def M_raw_length : List D → S → R D := Classical.choose Mx_raw_length
theorem Me_raw_length : M_raw_length = pureRun (fnM 2 7 b_raw_length) := Classical.choose_spec Mx_raw_length
theorem ok_raw_length (N : Nm K mg) : DefOk P w K mg base "raw_length" 1 2 M_raw_length := by rw [Me_raw_length]; exact (raw_raw_length N).alone
theorem raw_length_eq {m : Mac} (hm : m.Ok) {t : List Nat} (ht : TxOk m.n t) {s : S} : M_raw_length [.p (eM m), .p (eT t)] s = .ok (.p (eO (m.len t))) s := by
  rw [Me_raw_length]; refine pure_eq rfl ?_
  have z2 : sizeOk 2 = true := by decide
  simp only [b_raw_length, mVar, mK, mBin, mUn, mTru, mTest, mAnd, mOr, mNot, mAndV, mOrV, mNotV, mIf, mNil, mCons, mTup, mLst, mLstF, mCall, mChain, mIsi, fIsi, tyD, tyP, mSlice, oNo, oSome, mSeq, srcOf, mRange1, mRange2, sNext, sSeq, sIf, sRet, sRetN, sExpr, sSet, sAsg, sAug, sFor, sRaise, gSet, gMore, gNone, Mp.gTup, mMeth, fAppend, mEnum, srcEnum, mDNew, fLen, fInt, truth, ptruth, asB, pp1, pp2, ret1, dIs, isN, allP, frzD, mFrz, List.map_cons, List.map_nil, List.cons_append, List.nil_append, List.length_cons, List.length_nil, List.getElem?_cons_zero, List.getElem?_cons_succ, List.getElem?_nil, List.set_cons_zero, List.set_cons_succ, if_true, ite_true, Nat.reduceAdd, Nat.reduceSub, List.replicate, Bool.false_eq_true, if_false, Bool.not_true, Bool.not_false, mp_ft, mp_tf, isTy, beq_self_eq_true, isi0, isi1, isi2, isi3, isi4, isi5, isi6, isi7, isi8, isi9, isi10, isi11, isi12, isi13, isi14, isi15, isi16, isi17, isi18, isi19, isi20, isi21, isi22, isi23, isi24, isi25, isi26, isi27, isi28, isi29, isi30, isi31, isi32, isi33, isi34, isi35, isi36, isi37, isi38, isi39, isi40, isi41, onlyF, dIx_tup, dIx_lst, dIx_ref, ixAt_0, ixAt_1, ixAt_2, ixAt_3, iEq_int, iNe_int, dAdd, iAdd, iSub, iNeg, iCmp, iLe, iLt, iGe, iGt, dMul, iMulT, iMul, iMod, iDiv, gIx, setIx, decide_true, decide_false, decide_eq_true_eq, Bool.not_eq_true, List.length_map, gets_ok, gets_bind, gets_ite, rsw_ite, rsw_seq, rsw_thn, rsw_nx, rsw_ret, rst_x, rsx_seq, rsx_nx, rsx_ret, rsx_brk, rsx_cont, rsx_ite, rsx_thn, gets_fnM, onlyP, Option.map_some, Src.items, z2, Src.items, Src.ok, eT, map_map]
  refine for_gets (J := fun xs e s' => ∃ (t1 : List Nat) (q f : Nat) (e4 e5 : Option D), xs = t1.map (fun c => D.p (eN c)) ∧ TxOk m.n t1 ∧ q < m.rs.length ∧ m.read 0 0 t = m.read q f t1 ∧ s' = ⟨[], s.w⟩ ∧ e = [some (.p (eM m)), some (.p (.tuple (t.map eN))), some (.p (.int q)), some (.p (.int f)), e4, e5, none]) (fun _ _ _ _ => trivial) ?_ ?_ _ _ _ ?_
  · rintro x xs e s' ⟨t1, q, f, e4, e5, hx, ht1, hq, hr, rfl, rfl⟩
    cases t1 with
    | nil => cases hx
    | cons c t1 =>
      cases hx
      have hc : c < (m.row q).ss.length := by rw [(hm.row hq).len]; exact ht1 c List.mem_cons_self
      simp only [mVar, mK, mBin, mUn, mTru, mTest, mAnd, mOr, mNot, mAndV, mOrV, mNotV, mIf, mNil, mCons, mTup, mLst, mLstF, mCall, mChain, mIsi, fIsi, tyD, tyP, mSlice, oNo, oSome, mSeq, srcOf, mRange1, mRange2, sNext, sSeq, sIf, sRet, sRetN, sExpr, sSet, sAsg, sAug, sFor, sRaise, gSet, gMore, gNone, Mp.gTup, mMeth, fAppend, mEnum, srcEnum, mDNew, fLen, fInt, truth, ptruth, asB, pp1, pp2, ret1, dIs, isN, allP, frzD, mFrz, List.map_cons, List.map_nil, List.cons_append, List.nil_append, List.length_cons, List.length_nil, List.getElem?_cons_zero, List.getElem?_cons_succ, List.getElem?_nil, List.set_cons_zero, List.set_cons_succ, if_true, ite_true, Nat.reduceAdd, Nat.reduceSub, List.replicate, Bool.false_eq_true, if_false, Bool.not_true, Bool.not_false, mp_ft, mp_tf, isTy, beq_self_eq_true, isi0, isi1, isi2, isi3, isi4, isi5, isi6, isi7, isi8, isi9, isi10, isi11, isi12, isi13, isi14, isi15, isi16, isi17, isi18, isi19, isi20, isi21, isi22, isi23, isi24, isi25, isi26, isi27, isi28, isi29, isi30, isi31, isi32, isi33, isi34, isi35, isi36, isi37, isi38, isi39, isi40, isi41, onlyF, dIx_tup, dIx_lst, dIx_ref, ixAt_0, ixAt_1, ixAt_2, ixAt_3, iEq_int, iNe_int, dAdd, iAdd, iSub, iNeg, iCmp, iLe, iLt, iGe, iGt, dMul, iMulT, iMul, iMod, iDiv, gIx, setIx, decide_true, decide_false, decide_eq_true_eq, Bool.not_eq_true, List.length_map, gets_ok, gets_bind, gets_ite, rsw_ite, rsw_seq, rsw_thn, rsw_nx, rsw_ret, rst_x, rsx_seq, rsx_nx, rsx_ret, rsx_brk, rsx_cont, rsx_ite, rsx_thn, gets_fnM, onlyP, Option.map_some, Src.items, ix_M1, ix_rs hq, ix_R1, eN, ix_ss hc]
      cases hst : (m.row q).st c with
      | none =>
        simp [mVar, mK, mBin, mUn, mTru, mTest, mAnd, mOr, mNot, mAndV, mOrV, mNotV, mIf, mNil, mCons, mTup, mLst, mLstF, mCall, mChain, mIsi, fIsi, tyD, tyP, mSlice, oNo, oSome, mSeq, srcOf, mRange1, mRange2, sNext, sSeq, sIf, sRet, sRetN, sExpr, sSet, sAsg, sAug, sFor, sRaise, gSet, gMore, gNone, Mp.gTup, mMeth, fAppend, mEnum, srcEnum, mDNew, fLen, fInt, truth, ptruth, asB, pp1, pp2, ret1, dIs, isN, allP, frzD, mFrz, List.map_cons, List.map_nil, List.cons_append, List.nil_append, List.length_cons, List.length_nil, List.getElem?_cons_zero, List.getElem?_cons_succ, List.getElem?_nil, List.set_cons_zero, List.set_cons_succ, if_true, ite_true, Nat.reduceAdd, Nat.reduceSub, List.replicate, Bool.false_eq_true, if_false, Bool.not_true, Bool.not_false, mp_ft, mp_tf, isTy, beq_self_eq_true, isi0, isi1, isi2, isi3, isi4, isi5, isi6, isi7, isi8, isi9, isi10, isi11, isi12, isi13, isi14, isi15, isi16, isi17, isi18, isi19, isi20, isi21, isi22, isi23, isi24, isi25, isi26, isi27, isi28, isi29, isi30, isi31, isi32, isi33, isi34, isi35, isi36, isi37, isi38, isi39, isi40, isi41, onlyF, dIx_tup, dIx_lst, dIx_ref, ixAt_0, ixAt_1, ixAt_2, ixAt_3, iEq_int, iNe_int, dAdd, iAdd, iSub, iNeg, iCmp, iLe, iLt, iGe, iGt, dMul, iMulT, iMul, iMod, iDiv, gIx, setIx, decide_true, decide_false, decide_eq_true_eq, Bool.not_eq_true, List.length_map, gets_ok, gets_bind, gets_ite, rsw_ite, rsw_seq, rsw_thn, rsw_nx, rsw_ret, rst_x, rsx_seq, rsx_nx, rsx_ret, rsx_brk, rsx_cont, rsx_ite, rsx_thn, gets_fnM, onlyP, Option.map_some, Src.items, eS, Mac.len, hr, Mac.read, hst, eO]
      | some p =>
        have hp := hm.st hq (ht1 c List.mem_cons_self) p hst
        simp only [mVar, mK, mBin, mUn, mTru, mTest, mAnd, mOr, mNot, mAndV, mOrV, mNotV, mIf, mNil, mCons, mTup, mLst, mLstF, mCall, mChain, mIsi, fIsi, tyD, tyP, mSlice, oNo, oSome, mSeq, srcOf, mRange1, mRange2, sNext, sSeq, sIf, sRet, sRetN, sExpr, sSet, sAsg, sAug, sFor, sRaise, gSet, gMore, gNone, Mp.gTup, mMeth, fAppend, mEnum, srcEnum, mDNew, fLen, fInt, truth, ptruth, asB, pp1, pp2, ret1, dIs, isN, allP, frzD, mFrz, List.map_cons, List.map_nil, List.cons_append, List.nil_append, List.length_cons, List.length_nil, List.getElem?_cons_zero, List.getElem?_cons_succ, List.getElem?_nil, List.set_cons_zero, List.set_cons_succ, if_true, ite_true, Nat.reduceAdd, Nat.reduceSub, List.replicate, Bool.false_eq_true, if_false, Bool.not_true, Bool.not_false, mp_ft, mp_tf, isTy, beq_self_eq_true, isi0, isi1, isi2, isi3, isi4, isi5, isi6, isi7, isi8, isi9, isi10, isi11, isi12, isi13, isi14, isi15, isi16, isi17, isi18, isi19, isi20, isi21, isi22, isi23, isi24, isi25, isi26, isi27, isi28, isi29, isi30, isi31, isi32, isi33, isi34, isi35, isi36, isi37, isi38, isi39, isi40, isi41, onlyF, dIx_tup, dIx_lst, dIx_ref, ixAt_0, ixAt_1, ixAt_2, ixAt_3, iEq_int, iNe_int, dAdd, iAdd, iSub, iNeg, iCmp, iLe, iLt, iGe, iGt, dMul, iMulT, iMul, iMod, iDiv, gIx, setIx, decide_true, decide_false, decide_eq_true_eq, Bool.not_eq_true, List.length_map, gets_ok, gets_bind, gets_ite, rsw_ite, rsw_seq, rsw_thn, rsw_nx, rsw_ret, rst_x, rsx_seq, rsx_nx, rsx_ret, rsx_brk, rsx_cont, rsx_ite, rsx_thn, gets_fnM, onlyP, Option.map_some, Src.items, ix_S0, ix_S1]
        simp only [eS, mVar, mK, mBin, mUn, mTru, mTest, mAnd, mOr, mNot, mAndV, mOrV, mNotV, mIf, mNil, mCons, mTup, mLst, mLstF, mCall, mChain, mIsi, fIsi, tyD, tyP, mSlice, oNo, oSome, mSeq, srcOf, mRange1, mRange2, sNext, sSeq, sIf, sRet, sRetN, sExpr, sSet, sAsg, sAug, sFor, sRaise, gSet, gMore, gNone, Mp.gTup, mMeth, fAppend, mEnum, srcEnum, mDNew, fLen, fInt, truth, ptruth, asB, pp1, pp2, ret1, dIs, isN, allP, frzD, mFrz, List.map_cons, List.map_nil, List.cons_append, List.nil_append, List.length_cons, List.length_nil, List.getElem?_cons_zero, List.getElem?_cons_succ, List.getElem?_nil, List.set_cons_zero, List.set_cons_succ, if_true, ite_true, Nat.reduceAdd, Nat.reduceSub, List.replicate, Bool.false_eq_true, if_false, Bool.not_true, Bool.not_false, mp_ft, mp_tf, isTy, beq_self_eq_true, isi0, isi1, isi2, isi3, isi4, isi5, isi6, isi7, isi8, isi9, isi10, isi11, isi12, isi13, isi14, isi15, isi16, isi17, isi18, isi19, isi20, isi21, isi22, isi23, isi24, isi25, isi26, isi27, isi28, isi29, isi30, isi31, isi32, isi33, isi34, isi35, isi36, isi37, isi38, isi39, isi40, isi41, onlyF, dIx_tup, dIx_lst, dIx_ref, ixAt_0, ixAt_1, ixAt_2, ixAt_3, iEq_int, iNe_int, dAdd, iAdd, iSub, iNeg, iCmp, iLe, iLt, iGe, iGt, dMul, iMulT, iMul, iMod, iDiv, gIx, setIx, decide_true, decide_false, decide_eq_true_eq, Bool.not_eq_true, List.length_map, gets_ok, gets_bind, gets_ite, rsw_ite, rsw_seq, rsw_thn, rsw_nx, rsw_ret, rst_x, rsx_seq, rsx_nx, rsx_ret, rsx_brk, rsx_cont, rsx_ite, rsx_thn, gets_fnM, onlyP, Option.map_some, Src.items]
        refine ⟨t1, p.2, f + p.1, some (.p (.int c)), some (.p (eS (some p))), rfl, fun y hy => ht1 y (List.mem_cons_of_mem _ hy), hp.2, ?_, by simp [eS]⟩
        rw [hr, Mac.read, hst]
  · rintro e s' ⟨t1, q, f, e4, e5, hx, ht1, hq, hr, rfl, rfl⟩
    cases t1 with
    | cons c t1 => cases hx
    | nil =>
      simp only [mVar, mK, mBin, mUn, mTru, mTest, mAnd, mOr, mNot, mAndV, mOrV, mNotV, mIf, mNil, mCons, mTup, mLst, mLstF, mCall, mChain, mIsi, fIsi, tyD, tyP, mSlice, oNo, oSome, mSeq, srcOf, mRange1, mRange2, sNext, sSeq, sIf, sRet, sRetN, sExpr, sSet, sAsg, sAug, sFor, sRaise, gSet, gMore, gNone, Mp.gTup, mMeth, fAppend, mEnum, srcEnum, mDNew, fLen, fInt, truth, ptruth, asB, pp1, pp2, ret1, dIs, isN, allP, frzD, mFrz, List.map_cons, List.map_nil, List.cons_append, List.nil_append, List.length_cons, List.length_nil, List.getElem?_cons_zero, List.getElem?_cons_succ, List.getElem?_nil, List.set_cons_zero, List.set_cons_succ, if_true, ite_true, Nat.reduceAdd, Nat.reduceSub, List.replicate, Bool.false_eq_true, if_false, Bool.not_true, Bool.not_false, mp_ft, mp_tf, isTy, beq_self_eq_true, isi0, isi1, isi2, isi3, isi4, isi5, isi6, isi7, isi8, isi9, isi10, isi11, isi12, isi13, isi14, isi15, isi16, isi17, isi18, isi19, isi20, isi21, isi22, isi23, isi24, isi25, isi26, isi27, isi28, isi29, isi30, isi31, isi32, isi33, isi34, isi35, isi36, isi37, isi38, isi39, isi40, isi41, onlyF, dIx_tup, dIx_lst, dIx_ref, ixAt_0, ixAt_1, ixAt_2, ixAt_3, iEq_int, iNe_int, dAdd, iAdd, iSub, iNeg, iCmp, iLe, iLt, iGe, iGt, dMul, iMulT, iMul, iMod, iDiv, gIx, setIx, decide_true, decide_false, decide_eq_true_eq, Bool.not_eq_true, List.length_map, gets_ok, gets_bind, gets_ite, rsw_ite, rsw_seq, rsw_thn, rsw_nx, rsw_ret, rst_x, rsx_seq, rsx_nx, rsx_ret, rsx_brk, rsx_cont, rsx_ite, rsx_thn, gets_fnM, onlyP, Option.map_some, Src.items, ix_M1, ix_rs hq, ix_R0]
      have hl : m.len t = (m.row q).fin.map (f + ·) := by simp [Mac.len, hr, Mac.read]
      rw [hl]
      cases (m.row q).fin <;> simp [mVar, mK, mBin, mUn, mTru, mTest, mAnd, mOr, mNot, mAndV, mOrV, mNotV, mIf, mNil, mCons, mTup, mLst, mLstF, mCall, mChain, mIsi, fIsi, tyD, tyP, mSlice, oNo, oSome, mSeq, srcOf, mRange1, mRange2, sNext, sSeq, sIf, sRet, sRetN, sExpr, sSet, sAsg, sAug, sFor, sRaise, gSet, gMore, gNone, Mp.gTup, mMeth, fAppend, mEnum, srcEnum, mDNew, fLen, fInt, truth, ptruth, asB, pp1, pp2, ret1, dIs, isN, allP, frzD, mFrz, List.map_cons, List.map_nil, List.cons_append, List.nil_append, List.length_cons, List.length_nil, List.getElem?_cons_zero, List.getElem?_cons_succ, List.getElem?_nil, List.set_cons_zero, List.set_cons_succ, if_true, ite_true, Nat.reduceAdd, Nat.reduceSub, List.replicate, Bool.false_eq_true, if_false, Bool.not_true, Bool.not_false, mp_ft, mp_tf, isTy, beq_self_eq_true, isi0, isi1, isi2, isi3, isi4, isi5, isi6, isi7, isi8, isi9, isi10, isi11, isi12, isi13, isi14, isi15, isi16, isi17, isi18, isi19, isi20, isi21, isi22, isi23, isi24, isi25, isi26, isi27, isi28, isi29, isi30, isi31, isi32, isi33, isi34, isi35, isi36, isi37, isi38, isi39, isi40, isi41, onlyF, dIx_tup, dIx_lst, dIx_ref, ixAt_0, ixAt_1, ixAt_2, ixAt_3, iEq_int, iNe_int, dAdd, iAdd, iSub, iNeg, iCmp, iLe, iLt, iGe, iGt, dMul, iMulT, iMul, iMod, iDiv, gIx, setIx, decide_true, decide_false, decide_eq_true_eq, Bool.not_eq_true, List.length_map, gets_ok, gets_bind, gets_ite, rsw_ite, rsw_seq, rsw_thn, rsw_nx, rsw_ret, rst_x, rsx_seq, rsx_nx, rsx_ret, rsx_brk, rsx_cont, rsx_ite, rsx_thn, gets_fnM, onlyP, Option.map_some, Src.items, eO]
  · exact ⟨t, 0, 0, none, none, rfl, ht, by have := hm.r1; omega, rfl, rfl, rfl⟩

/-! check_text -/
theorem sc_check_text : FnScope ["machine", "thing"] ["machine", "thing"] (defScope t_check_text) := ⟨rfl, rfl, rfl, by decide +kernel, rfl, by decide +kernel, by decide +kernel⟩
theorem bn_check_text : BindN "check_text" t_check_text ["machine", "thing"] := fun _ _ _ _ _ _ us hl => match us, hl with | [_, _], _ => rfl
noncomputable def b_check_text : MS := (sIf (mNot (mTru (mCall M_raw_is_text (mCons (mBin dIx (mVar 0) (mK (.int 0))) (mCons (mVar 1) mNil))))) (sRaise "NoText") sNext)
theorem raw_check_text (N : Nm K mg) : DefOk P w K mg base "check_text" 5 2 (fnM 2 2 b_check_text) := def_mk N.d_check_text sc_check_text bn_check_text rfl rfl fun f cdv A outer s H E hr nd tk hp => (ss_one (s_if (t_not (t_tru (e_callS (ok_raw_is_text N) hr (by decide) tk (a_cons (e_ix (e_var (i := 0)) (e_gint N.i_SIZE)) (a_cons (e_var (i := 1)) a_nil)) (argN_cons (argN_cons argN_nil))))) (ss_one (s_raiseX N.x_NoText tk)) ss_nil))
def M_check_text : List D → S → R D := fun ds s => match ds with
  | [.p (.tuple (.int n :: r)), .p x] => if smallT x then (if isText n x then .ok (.p .none) s else .ex "NoText" [] s) else .bad
  | _ => .bad
theorem ok_check_text (N : Nm K mg) : DefOk P w K mg base "check_text" 5 2 M_check_text := (raw_check_text N).alone.eqv fun ds s => by
  unfold M_check_text
  split
  · rename_i n r x
    split
    · rename_i hz
      left
      cases h : isText n x <;> simp [b_check_text, pureRun, onlyP, fnM, mVar, mK, mBin, mUn, mTru, mTest, mAnd, mOr, mNot, mAndV, mOrV, mNotV, mIf, mNil, mCons, mTup, mLst, mLstF, mCall, mChain, mIsi, fIsi, tyD, tyP, mSlice, oNo, oSome, mSeq, srcOf, mRange1, mRange2, sNext, sSeq, sIf, sRet, sRetN, sExpr, sSet, sAsg, sAug, sFor, sRaise, gSet, gMore, gNone, Mp.gTup, mMeth, fAppend, mEnum, srcEnum, mDNew, fLen, fInt, truth, ptruth, asB, pp1, pp2, ret1, dIs, isN, allP, frzD, mFrz, Mp.R.bind, R.thn, RS.seq, List.map_cons, List.map_nil, List.cons_append, List.nil_append, List.length_cons, List.length_nil, List.getElem?_cons_zero, List.getElem?_cons_succ, List.getElem?_nil, List.set_cons_zero, List.set_cons_succ, if_true, ite_true, Nat.reduceAdd, Nat.reduceSub, List.replicate, Bool.false_eq_true, if_false, Bool.not_true, Bool.not_false, mp_ft, mp_tf, isTy, beq_self_eq_true, isi0, isi1, isi2, isi3, isi4, isi5, isi6, isi7, isi8, isi9, isi10, isi11, isi12, isi13, isi14, isi15, isi16, isi17, isi18, isi19, isi20, isi21, isi22, isi23, isi24, isi25, isi26, isi27, isi28, isi29, isi30, isi31, isi32, isi33, isi34, isi35, isi36, isi37, isi38, isi39, isi40, isi41, onlyF, dIx_tup, dIx_lst, dIx_ref, ixAt_0, ixAt_1, ixAt_2, ixAt_3, iEq_int, iNe_int, dAdd, iAdd, iSub, iNeg, iCmp, iLe, iLt, iGe, iGt, dMul, iMulT, iMul, iMod, iDiv, gIx, setIx, decide_true, decide_false, decide_eq_true_eq, Bool.not_eq_true, List.length_map, M_raw_is_text, hz, h]
    · exact .inr rfl
  · exact .inr rfl

/-! length -/
theorem sc_length : FnScope ["machine", "text"] ["machine", "text"] (defScope t_length) := ⟨rfl, rfl, rfl, by decide +kernel, rfl, by decide +kernel, by decide +kernel⟩
theorem bn_length : BindN "length" t_length ["machine", "text"] := fun _ _ _ _ _ _ us hl => match us, hl with | [_, _], _ => rfl
noncomputable def b_length : MS := (sSeq (sExpr (mCall M_check_machine (mCons (mVar 0) mNil))) (sSeq (sExpr (mCall M_check_text (mCons (mVar 0) (mCons (mVar 1) mNil)))) (sRet (mCall M_raw_length (mCons (mVar 0) (mCons (mVar 1) mNil))))))
theorem raw_length (N : Nm K mg) : DefOk P w K mg base "length" 8 2 (fnM 2 2 b_length) := def_mk N.d_length sc_length bn_length rfl rfl fun f cdv A outer s H E hr nd tk hp => (ss_cons (s_expr (e_callS (ok_check_machine N) hr (by decide) tk (a_cons (e_var (i := 0)) a_nil) (argN_cons argN_nil))) (ss_cons (s_expr (e_callS (ok_check_text N) hr (by decide) tk (a_cons (e_var (i := 0)) (a_cons (e_var (i := 1)) a_nil)) (argN_cons (argN_cons argN_nil)))) (ss_one (s_ret (e_callS (ok_raw_length N) hr (by decide) tk (a_cons (e_var (i := 0)) (a_cons (e_var (i := 1)) a_nil)) (argN_cons (argN_cons argN_nil)))))))
noncomputable def M_length : List D → S → R D := pureRun (fnM 2 2 b_length)
theorem ok_length (N : Nm K mg) : DefOk P w K mg base "length" 8 2 M_length := (raw_length N).alone
theorem smallT_eT {t : List Nat} : smallT (eT t) = sizeOk t.length := by simp [eT, smallT]
theorem length_eq {m : Mac} (hm : m.Ok) {t : List Nat} (ht : TxOk m.n t) (hz : t.length ≤ 16777216) {s : S} : M_length [.p (eM m), .p (eT t)] s = .ok (.p (eO (m.len t))) s := by
  have h0 : ∀ s, M_check_text [.p (eM m), .p (eT t)] s = .ok (.p .none) s := fun s => by
    simp [M_check_text, eM, smallT_eT, sizeOk_of hz, isText_eT ht]
  refine pure_eq rfl ?_
  simp [b_length, mVar, mK, mBin, mUn, mTru, mTest, mAnd, mOr, mNot, mAndV, mOrV, mNotV, mIf, mNil, mCons, mTup, mLst, mLstF, mCall, mChain, mIsi, fIsi, tyD, tyP, mSlice, oNo, oSome, mSeq, srcOf, mRange1, mRange2, sNext, sSeq, sIf, sRet, sRetN, sExpr, sSet, sAsg, sAug, sFor, sRaise, gSet, gMore, gNone, Mp.gTup, mMeth, fAppend, mEnum, srcEnum, mDNew, fLen, fInt, truth, ptruth, asB, pp1, pp2, ret1, dIs, isN, allP, frzD, mFrz, List.map_cons, List.map_nil, List.cons_append, List.nil_append, List.length_cons, List.length_nil, List.getElem?_cons_zero, List.getElem?_cons_succ, List.getElem?_nil, List.set_cons_zero, List.set_cons_succ, if_true, ite_true, Nat.reduceAdd, Nat.reduceSub, List.replicate, Bool.false_eq_true, if_false, Bool.not_true, Bool.not_false, mp_ft, mp_tf, isTy, beq_self_eq_true, isi0, isi1, isi2, isi3, isi4, isi5, isi6, isi7, isi8, isi9, isi10, isi11, isi12, isi13, isi14, isi15, isi16, isi17, isi18, isi19, isi20, isi21, isi22, isi23, isi24, isi25, isi26, isi27, isi28, isi29, isi30, isi31, isi32, isi33, isi34, isi35, isi36, isi37, isi38, isi39, isi40, isi41, onlyF, dIx_tup, dIx_lst, dIx_ref, ixAt_0, ixAt_1, ixAt_2, ixAt_3, iEq_int, iNe_int, dAdd, iAdd, iSub, iNeg, iCmp, iLe, iLt, iGe, iGt, dMul, iMulT, iMul, iMod, iDiv, gIx, setIx, decide_true, decide_false, decide_eq_true_eq, Bool.not_eq_true, List.length_map, gets_ok, gets_bind, gets_ite, rsw_ite, rsw_seq, rsw_thn, rsw_nx, rsw_ret, rst_x, rsx_seq, rsx_nx, rsx_ret, rsx_brk, rsx_cont, rsx_ite, rsx_thn, gets_fnM, onlyP, Option.map_some, Src.items, M_check_machine, isMachine_eM hm, h0, raw_length_eq hm ht]
theorem length_machine {x y : PyData} (h : isMachine x = false) {s : S} : M_length [.p x, .p y] s = .ex "NoMachine" [] s := by
  simp [M_length, b_length, pureRun, onlyP, fnM, mVar, mK, mBin, mUn, mTru, mTest, mAnd, mOr, mNot, mAndV, mOrV, mNotV, mIf, mNil, mCons, mTup, mLst, mLstF, mCall, mChain, mIsi, fIsi, tyD, tyP, mSlice, oNo, oSome, mSeq, srcOf, mRange1, mRange2, sNext, sSeq, sIf, sRet, sRetN, sExpr, sSet, sAsg, sAug, sFor, sRaise, gSet, gMore, gNone, Mp.gTup, mMeth, fAppend, mEnum, srcEnum, mDNew, fLen, fInt, truth, ptruth, asB, pp1, pp2, ret1, dIs, isN, allP, frzD, mFrz, Mp.R.bind, R.thn, RS.seq, List.map_cons, List.map_nil, List.cons_append, List.nil_append, List.length_cons, List.length_nil, List.getElem?_cons_zero, List.getElem?_cons_succ, List.getElem?_nil, List.set_cons_zero, List.set_cons_succ, if_true, ite_true, Nat.reduceAdd, Nat.reduceSub, List.replicate, Bool.false_eq_true, if_false, Bool.not_true, Bool.not_false, mp_ft, mp_tf, isTy, beq_self_eq_true, isi0, isi1, isi2, isi3, isi4, isi5, isi6, isi7, isi8, isi9, isi10, isi11, isi12, isi13, isi14, isi15, isi16, isi17, isi18, isi19, isi20, isi21, isi22, isi23, isi24, isi25, isi26, isi27, isi28, isi29, isi30, isi31, isi32, isi33, isi34, isi35, isi36, isi37, isi38, isi39, isi40, isi41, onlyF, dIx_tup, dIx_lst, dIx_ref, ixAt_0, ixAt_1, ixAt_2, ixAt_3, iEq_int, iNe_int, dAdd, iAdd, iSub, iNeg, iCmp, iLe, iLt, iGe, iGt, dMul, iMulT, iMul, iMod, iDiv, gIx, setIx, decide_true, decide_false, decide_eq_true_eq, Bool.not_eq_true, List.length_map, M_check_machine, h]
theorem length_text {m : Mac} (hm : m.Ok) {y : PyData} (h : isText m.n y = false) (hz : smallT y = true) {s : S} : M_length [.p (eM m), .p y] s = .ex "NoText" [] s := by
  have h0 : ∀ s, M_check_text [.p (eM m), .p y] s = .ex "NoText" [] s := fun s => by
    simp [M_check_text, eM, hz, h]
  simp [M_length, b_length, pureRun, onlyP, fnM, mVar, mK, mBin, mUn, mTru, mTest, mAnd, mOr, mNot, mAndV, mOrV, mNotV, mIf, mNil, mCons, mTup, mLst, mLstF, mCall, mChain, mIsi, fIsi, tyD, tyP, mSlice, oNo, oSome, mSeq, srcOf, mRange1, mRange2, sNext, sSeq, sIf, sRet, sRetN, sExpr, sSet, sAsg, sAug, sFor, sRaise, gSet, gMore, gNone, Mp.gTup, mMeth, fAppend, mEnum, srcEnum, mDNew, fLen, fInt, truth, ptruth, asB, pp1, pp2, ret1, dIs, isN, allP, frzD, mFrz, Mp.R.bind, R.thn, RS.seq, List.map_cons, List.map_nil, List.cons_append, List.nil_append, List.length_cons, List.length_nil, List.getElem?_cons_zero, List.getElem?_cons_succ, List.getElem?_nil, List.set_cons_zero, List.set_cons_succ, if_true, ite_true, Nat.reduceAdd, Nat.reduceSub, List.replicate, Bool.false_eq_true, if_false, Bool.not_true, Bool.not_false, mp_ft, mp_tf, isTy, beq_self_eq_true, isi0, isi1, isi2, isi3, isi4, isi5, isi6, isi7, isi8, isi9, isi10, isi11, isi12, isi13, isi14, isi15, isi16, isi17, isi18, isi19, isi20, isi21, isi22, isi23, isi24, isi25, isi26, isi27, isi28, isi29, isi30, isi31, isi32, isi33, isi34, isi35, isi36, isi37, isi38, isi39, isi40, isi41, onlyF, dIx_tup, dIx_lst, dIx_ref, ixAt_0, ixAt_1, ixAt_2, ixAt_3, iEq_int, iNe_int, dAdd, iAdd, iSub, iNeg, iCmp, iLe, iLt, iGe, iGt, dMul, iMulT, iMul, iMod, iDiv, gIx, setIx, decide_true, decide_false, decide_eq_true_eq, Bool.not_eq_true, List.length_map, M_check_machine, isMachine_eM hm, h0]

/-! reached -/
theorem sc_reached : FnScope ["machine", "found", "left", "step"] ["machine"] (defScope t_reached) := ⟨rfl, rfl, rfl, by decide +kernel, rfl, by decide +kernel, by decide +kernel⟩
theorem bn_reached : BindN "reached" t_reached ["machine"] := fun _ _ _ _ _ _ us hl => match us, hl with | [_], _ => rfl
noncomputable def b_reached : MS := (sSeq (sSet 1 (mDict1 (mK (.int 0)) (mK (.bool true)))) (sSeq (sSet 2 (mLst (mCons (mK (.int 0)) mNil))) (sSeq (sWhile (mTest (mBin (pp2 iGt) (mCall fLen (mCons (mVar 2) mNil)) (mK (.int 0)))) (sFor (mSeq (mBin dIx (mBin dIx (mBin dIx (mVar 0) (mK (.int 1))) (mMeth "list" fPop (mVar 2) mNil)) (mK (.int 1)))) (gSet 3) (sIf (mAnd (mTest (mBin (dIs false) (mVar 3) (mK .none))) (mTest (mBin dNotIn (mBin dIx (mVar 3) (mK (.int 1))) (mVar 1)))) (sSeq (sAsg (mK (.bool true)) (gDk (mVar 1) (mBin dIx (mVar 3) (mK (.int 1))))) (sExpr (mMeth "list" fAppend (mVar 2) (mCons (mBin dIx (mVar 3) (mK (.int 1))) mNil)))) sNext))) (sRet (mFrz (mVar 1))))))
theorem raw_reached (N : Nm K mg) : DefOk P w K mg base "reached" 1 1 (fnM 1 4 b_reached) := def_mk N.d_reached sc_reached bn_reached rfl rfl fun f cdv A outer s H E hr nd tk hp => (ss_cons (s_set (i := 1) nd (e_disp1O e_int e_bool)) (ss_cons (s_set (i := 2) nd (e_lst (a_cons e_int a_nil))) (ss_cons (s_while hp (t_cmp o_gtP (e_bi b_len rfl N.f_len bt_len (a_cons (e_var (i := 2)) a_nil)) e_int (nomark _)) (ss_one (s_for hp rfl (i_seq (e_ix (e_ix (e_ix (e_var (i := 0)) (e_gint N.i_ROWS)) (e_pop0 (e_var (i := 2)))) e_int)) (g_name (i := 3) nd) (ss_one (s_if (t_w (w_and (t_cmp o_isnot (e_var (i := 3)) e_none (nomark _)) (w_and1 (t_cmp (o_notin (hu65 hr)) (e_ix (e_var (i := 3)) e_int) (e_var (i := 1)) rfl)))) (ss_cons (s_asg e_bool (g_dk (hu1 hr) (e_var (i := 1)) (e_ix (e_var (i := 3)) e_int))) (ss_one (s_expr (e_append (e_var (i := 2)) (a_cons (e_ix (e_var (i := 3)) e_int) a_nil))))) ss_nil))))) (ss_one (s_ret (e_frz (e_var (i := 1))))))))
theorem Mx_reached : ∃ f : List D → S → R D, f = pureRun (fnM 1 4 b_reached) := ⟨_, rfl⟩
noncomputable def M_reached : List D → S → R D := Classical.choose Mx_reached
theorem Me_reached : M_reached = pureRun (fnM 1 4 b_reached) := Classical.choose_spec Mx_reached
theorem ok_reached (N : Nm K mg) : DefOk P w K mg base "reached" 1 1 M_reached := by rw [Me_reached]; exact (raw_reached N).alone
theorem reached_eq {m : Mac} (hm : m.Ok) {s : S} : ∃ x, (∃ fs : List Nat, x = eFs fs ∧ fs.Nodup ∧ ∀ q, q ∈ fs ↔ m.Rch 0 q) ∧ M_reached [.p (eM m)] s = .ok (.p x) s := by
  rw [Me_reached]; refine pure_ex rfl ?_
  have z1 : Mp.sizeOk 1 = true := by decide
  have h0 : 0 < m.rs.length := by have := hm.r1; omega
  have e0 : [((Sum.inl (0 : Int) : L2.Key), D.p (.bool true))] = eK [0] := rfl
  have bound : ∀ fs : List Nat, fs.Nodup → (∀ x ∈ fs, m.Rch 0 x) → fs.length ≤ m.rs.length := fun fs nd h => nd_len nd fun x hx => (h x hx).lt hm h0
  simp only [b_reached, mVar, mK, mBin, mUn, mTru, mTest, mAnd, mOr, mNot, mAndV, mOrV, mNotV, mIf, mNil, mCons, mTup, mLst, mLstF, mCall, mChain, mIsi, fIsi, tyD, tyP, mSlice, oNo, oSome, mSeq, srcOf, mRange1, mRange2, sNext, sSeq, sIf, sRet, sRetN, sExpr, sSet, sAsg, sAug, sFor, sRaise, gSet, gMore, gNone, Mp.gTup, mMeth, fAppend, mEnum, srcEnum, mDNew, fLen, fInt, truth, ptruth, asB, pp1, pp2, ret1, dIs, isN, allP, frzD, mFrz, List.map_cons, List.map_nil, List.cons_append, List.nil_append, List.length_cons, List.length_nil, List.getElem?_cons_zero, List.getElem?_cons_succ, List.getElem?_nil, List.set_cons_zero, List.set_cons_succ, if_true, ite_true, Nat.reduceAdd, Nat.reduceSub, List.replicate, Bool.false_eq_true, if_false, Bool.not_true, Bool.not_false, mp_ft, mp_tf, isTy, beq_self_eq_true, isi0, isi1, isi2, isi3, isi4, isi5, isi6, isi7, isi8, isi9, isi10, isi11, isi12, isi13, isi14, isi15, isi16, isi17, isi18, isi19, isi20, isi21, isi22, isi23, isi24, isi25, isi26, isi27, isi28, isi29, isi30, isi31, isi32, isi33, isi34, isi35, isi36, isi37, isi38, isi39, isi40, isi41, onlyF, dIx_tup, dIx_lst, dIx_ref, ixAt_0, ixAt_1, ixAt_2, ixAt_3, iEq_int, iNe_int, dAdd, iAdd, iSub, iNeg, iCmp, iLe, iLt, iGe, iGt, dMul, iMulT, iMul, iMod, iDiv, gIx, setIx, decide_true, decide_false, decide_eq_true_eq, Bool.not_eq_true, List.length_map, gets_ok, gets_bind, gets_ite, rsw_ite, rsw_seq, rsw_thn, rsw_nx, rsw_ret, rst_x, rsx_seq, rsx_nx, rsx_ret, rsx_brk, rsx_cont, rsx_ite, rsx_thn, gets_fnM, onlyP, Option.map_some, Src.items, mDict1, newDct, newLst, keyOf, z1, List.nil_append, e0]
  refine while_gets (J := fun n e s' => ∃ (fs ls : List Nat) (e3 : Option D), fs.Nodup ∧ (∀ x ∈ fs, m.Rch 0 x) ∧ 0 ∈ fs ∧ (∀ x ∈ ls, x ∈ fs) ∧ (∀ x ∈ fs, x ∉ ls → ∀ r ∈ m.nx x, r ∈ fs) ∧ n = 2 * (m.rs.length - fs.length) + ls.length ∧ n ≤ 60 ∧
    s' = ⟨[some (.dct (eK fs)), some (.lst (ls.map fun q => D.p (eN q)))], s.w⟩ ∧ e = [some (.p (eM m)), some (.ref 0), some (.ref 1), e3]) ?_ _ _ _ ⟨[0], [0], none, by simp, by simpa using Mac.Rch.refl 0, by simp, by simp, by simp, rfl, (by have := hm.r30; simp; omega), by simp [eN], rfl⟩
  rintro n e s' ⟨fs, ls, e3, nd, hr, h00, hl, hc, rfl, h60, rfl, rfl⟩
  simp only [mVar, mK, mBin, mUn, mTru, mTest, mAnd, mOr, mNot, mAndV, mOrV, mNotV, mIf, mNil, mCons, mTup, mLst, mLstF, mCall, mChain, mIsi, fIsi, tyD, tyP, mSlice, oNo, oSome, mSeq, srcOf, mRange1, mRange2, sNext, sSeq, sIf, sRet, sRetN, sExpr, sSet, sAsg, sAug, sFor, sRaise, gSet, gMore, gNone, Mp.gTup, mMeth, fAppend, mEnum, srcEnum, mDNew, fLen, fInt, truth, ptruth, asB, pp1, pp2, ret1, dIs, isN, allP, frzD, mFrz, List.map_cons, List.map_nil, List.cons_append, List.nil_append, List.length_cons, List.length_nil, List.getElem?_cons_zero, List.getElem?_cons_succ, List.getElem?_nil, List.set_cons_zero, List.set_cons_succ, if_true, ite_true, Nat.reduceAdd, Nat.reduceSub, List.replicate, Bool.false_eq_true, if_false, Bool.not_true, Bool.not_false, mp_ft, mp_tf, isTy, beq_self_eq_true, isi0, isi1, isi2, isi3, isi4, isi5, isi6, isi7, isi8, isi9, isi10, isi11, isi12, isi13, isi14, isi15, isi16, isi17, isi18, isi19, isi20, isi21, isi22, isi23, isi24, isi25, isi26, isi27, isi28, isi29, isi30, isi31, isi32, isi33, isi34, isi35, isi36, isi37, isi38, isi39, isi40, isi41, onlyF, dIx_tup, dIx_lst, dIx_ref, ixAt_0, ixAt_1, ixAt_2, ixAt_3, iEq_int, iNe_int, dAdd, iAdd, iSub, iNeg, iCmp, iLe, iLt, iGe, iGt, dMul, iMulT, iMul, iMod, iDiv, gIx, setIx, decide_true, decide_false, decide_eq_true_eq, Bool.not_eq_true, List.length_map, gets_ok, gets_bind, gets_ite, rsw_ite, rsw_seq, rsw_thn, rsw_nx, rsw_ret, rst_x, rsx_seq, rsx_nx, rsx_ret, rsx_brk, rsx_cont, rsx_ite, rsx_thn, gets_fnM, onlyP, Option.map_some, Src.items]
  rcases List.eq_nil_or_concat ls with rfl | ⟨ls, q, rfl⟩
  · simp only [mVar, mK, mBin, mUn, mTru, mTest, mAnd, mOr, mNot, mAndV, mOrV, mNotV, mIf, mNil, mCons, mTup, mLst, mLstF, mCall, mChain, mIsi, fIsi, tyD, tyP, mSlice, oNo, oSome, mSeq, srcOf, mRange1, mRange2, sNext, sSeq, sIf, sRet, sRetN, sExpr, sSet, sAsg, sAug, sFor, sRaise, gSet, gMore, gNone, Mp.gTup, mMeth, fAppend, mEnum, srcEnum, mDNew, fLen, fInt, truth, ptruth, asB, pp1, pp2, ret1, dIs, isN, allP, frzD, mFrz, List.map_cons, List.map_nil, List.cons_append, List.nil_append, List.length_cons, List.length_nil, List.getElem?_cons_zero, List.getElem?_cons_succ, List.getElem?_nil, List.set_cons_zero, List.set_cons_succ, if_true, ite_true, Nat.reduceAdd, Nat.reduceSub, List.replicate, Bool.false_eq_true, if_false, Bool.not_true, Bool.not_false, mp_ft, mp_tf, isTy, beq_self_eq_true, isi0, isi1, isi2, isi3, isi4, isi5, isi6, isi7, isi8, isi9, isi10, isi11, isi12, isi13, isi14, isi15, isi16, isi17, isi18, isi19, isi20, isi21, isi22, isi23, isi24, isi25, isi26, isi27, isi28, isi29, isi30, isi31, isi32, isi33, isi34, isi35, isi36, isi37, isi38, isi39, isi40, isi41, onlyF, dIx_tup, dIx_lst, dIx_ref, ixAt_0, ixAt_1, ixAt_2, ixAt_3, iEq_int, iNe_int, dAdd, iAdd, iSub, iNeg, iCmp, iLe, iLt, iGe, iGt, dMul, iMulT, iMul, iMod, iDiv, gIx, setIx, decide_true, decide_false, decide_eq_true_eq, Bool.not_eq_true, List.length_map, gets_ok, gets_bind, gets_ite, rsw_ite, rsw_seq, rsw_thn, rsw_nx, rsw_ret, rst_x, rsx_seq, rsx_nx, rsx_ret, rsx_brk, rsx_cont, rsx_ite, rsx_thn, gets_fnM, onlyP, Option.map_some, Src.items, List.map_nil, eK_all, Int.reduceLT, gt_iff_lt, Int.natCast_zero]
    refine ⟨trivial, _, rfl, fs, rfl, nd, fun q => ⟨hr q, fun k => k.closed (fun x hx r hr => hc x hx (by simp) r hr) h00⟩⟩
  · rw [List.concat_eq_append] at hl hc ⊢
    have hq := hl q (by simp)
    have hqn : q < m.rs.length := (hr q hq).lt hm h0
    have hlen : (0 : Int) < ((ls ++ [q]).length : Nat) := by simp
    simp only [mVar, mK, mBin, mUn, mTru, mTest, mAnd, mOr, mNot, mAndV, mOrV, mNotV, mIf, mNil, mCons, mTup, mLst, mLstF, mCall, mChain, mIsi, fIsi, tyD, tyP, mSlice, oNo, oSome, mSeq, srcOf, mRange1, mRange2, sNext, sSeq, sIf, sRet, sRetN, sExpr, sSet, sAsg, sAug, sFor, sRaise, gSet, gMore, gNone, Mp.gTup, mMeth, fAppend, mEnum, srcEnum, mDNew, fLen, fInt, truth, ptruth, asB, pp1, pp2, ret1, dIs, isN, allP, frzD, mFrz, List.map_cons, List.map_nil, List.cons_append, List.nil_append, List.length_cons, List.length_nil, List.getElem?_cons_zero, List.getElem?_cons_succ, List.getElem?_nil, List.set_cons_zero, List.set_cons_succ, if_true, ite_true, Nat.reduceAdd, Nat.reduceSub, List.replicate, Bool.false_eq_true, if_false, Bool.not_true, Bool.not_false, mp_ft, mp_tf, isTy, beq_self_eq_true, isi0, isi1, isi2, isi3, isi4, isi5, isi6, isi7, isi8, isi9, isi10, isi11, isi12, isi13, isi14, isi15, isi16, isi17, isi18, isi19, isi20, isi21, isi22, isi23, isi24, isi25, isi26, isi27, isi28, isi29, isi30, isi31, isi32, isi33, isi34, isi35, isi36, isi37, isi38, isi39, isi40, isi41, onlyF, dIx_tup, dIx_lst, dIx_ref, ixAt_0, ixAt_1, ixAt_2, ixAt_3, iEq_int, iNe_int, dAdd, iAdd, iSub, iNeg, iCmp, iLe, iLt, iGe, iGt, dMul, iMulT, iMul, iMod, iDiv, gIx, setIx, decide_true, decide_false, decide_eq_true_eq, Bool.not_eq_true, List.length_map, gets_ok, gets_bind, gets_ite, rsw_ite, rsw_seq, rsw_thn, rsw_nx, rsw_ret, rst_x, rsx_seq, rsx_nx, rsx_ret, rsx_brk, rsx_cont, rsx_ite, rsx_thn, gets_fnM, onlyP, Option.map_some, Src.items, List.map_append, List.map_cons, List.map_nil, List.length_append, List.length_map, List.length_cons, List.length_nil, Int.natCast_add, ix_M1, pop_last, eN, ix_rs hqn, ix_R1, Src.ok, map_map] at hlen ⊢
    simp only [show (0 : Int) < ((ls.length : Nat) : Int) + ((0 + 1 : Nat) : Int) by omega, mVar, mK, mBin, mUn, mTru, mTest, mAnd, mOr, mNot, mAndV, mOrV, mNotV, mIf, mNil, mCons, mTup, mLst, mLstF, mCall, mChain, mIsi, fIsi, tyD, tyP, mSlice, oNo, oSome, mSeq, srcOf, mRange1, mRange2, sNext, sSeq, sIf, sRet, sRetN, sExpr, sSet, sAsg, sAug, sFor, sRaise, gSet, gMore, gNone, Mp.gTup, mMeth, fAppend, mEnum, srcEnum, mDNew, fLen, fInt, truth, ptruth, asB, pp1, pp2, ret1, dIs, isN, allP, frzD, mFrz, List.map_cons, List.map_nil, List.cons_append, List.nil_append, List.length_cons, List.length_nil, List.getElem?_cons_zero, List.getElem?_cons_succ, List.getElem?_nil, List.set_cons_zero, List.set_cons_succ, if_true, ite_true, Nat.reduceAdd, Nat.reduceSub, List.replicate, Bool.false_eq_true, if_false, Bool.not_true, Bool.not_false, mp_ft, mp_tf, isTy, beq_self_eq_true, isi0, isi1, isi2, isi3, isi4, isi5, isi6, isi7, isi8, isi9, isi10, isi11, isi12, isi13, isi14, isi15, isi16, isi17, isi18, isi19, isi20, isi21, isi22, isi23, isi24, isi25, isi26, isi27, isi28, isi29, isi30, isi31, isi32, isi33, isi34, isi35, isi36, isi37, isi38, isi39, isi40, isi41, onlyF, dIx_tup, dIx_lst, dIx_ref, ixAt_0, ixAt_1, ixAt_2, ixAt_3, iEq_int, iNe_int, dAdd, iAdd, iSub, iNeg, iCmp, iLe, iLt, iGe, iGt, dMul, iMulT, iMul, iMod, iDiv, gIx, setIx, decide_true, decide_false, decide_eq_true_eq, Bool.not_eq_true, List.length_map, gets_ok, gets_bind, gets_ite, rsw_ite, rsw_seq, rsw_thn, rsw_nx, rsw_ret, rst_x, rsx_seq, rsx_nx, rsx_ret, rsx_brk, rsx_cont, rsx_ite, rsx_thn, gets_fnM, onlyP, Option.map_some, Src.items]
    refine rsx_of (for_gets (J := fun xs e s' => ∃ (r1 : List MSt) (fs1 ls1 : List Nat) (e3 : Option D), xs = r1.map (fun s => D.p (eS s)) ∧ (∀ s ∈ r1, s ∈ (m.row q).ss) ∧ fs1.Nodup ∧ (∀ x ∈ fs1, m.Rch 0 x) ∧ 0 ∈ fs1 ∧ q ∈ fs1 ∧ (∀ x ∈ ls1, x ∈ fs1) ∧ (∀ x ∈ fs1, x ∉ ls1 → x ≠ q → ∀ r ∈ m.nx x, r ∈ fs1) ∧
      (∀ r ∈ m.nx q, r ∈ fs1 ∨ ∃ a, some (a, r) ∈ r1) ∧ 2 * (m.rs.length - fs1.length) + ls1.length ≤ 2 * (m.rs.length - fs.length) + ls.length ∧ s' = ⟨[some (.dct (eK fs1)), some (.lst (ls1.map fun q => D.p (eN q)))], s.w⟩ ∧ e = [some (.p (eM m)), some (.ref 0), some (.ref 1), e3]) (fun _ _ _ _ => trivial) ?_ ?_ _ _ _ ?_)
    · rintro x xs e s' ⟨r1, fs1, ls1, e3, hx, hsub, nd1, hr1, h01, hq1, hl1, hc1, hn1, hm1, rfl, rfl⟩
      cases r1 with
      | nil => cases hx
      | cons st r1 =>
        cases hx
        simp only [mVar, mK, mBin, mUn, mTru, mTest, mAnd, mOr, mNot, mAndV, mOrV, mNotV, mIf, mNil, mCons, mTup, mLst, mLstF, mCall, mChain, mIsi, fIsi, tyD, tyP, mSlice, oNo, oSome, mSeq, srcOf, mRange1, mRange2, sNext, sSeq, sIf, sRet, sRetN, sExpr, sSet, sAsg, sAug, sFor, sRaise, gSet, gMore, gNone, Mp.gTup, mMeth, fAppend, mEnum, srcEnum, mDNew, fLen, fInt, truth, ptruth, asB, pp1, pp2, ret1, dIs, isN, allP, frzD, mFrz, List.map_cons, List.map_nil, List.cons_append, List.nil_append, List.length_cons, List.length_nil, List.getElem?_cons_zero, List.getElem?_cons_succ, List.getElem?_nil, List.set_cons_zero, List.set_cons_succ, if_true, ite_true, Nat.reduceAdd, Nat.reduceSub, List.replicate, Bool.false_eq_true, if_false, Bool.not_true, Bool.not_false, mp_ft, mp_tf, isTy, beq_self_eq_true, isi0, isi1, isi2, isi3, isi4, isi5, isi6, isi7, isi8, isi9, isi10, isi11, isi12, isi13, isi14, isi15, isi16, isi17, isi18, isi19, isi20, isi21, isi22, isi23, isi24, isi25, isi26, isi27, isi28, isi29, isi30, isi31, isi32, isi33, isi34, isi35, isi36, isi37, isi38, isi39, isi40, isi41, onlyF, dIx_tup, dIx_lst, dIx_ref, ixAt_0, ixAt_1, ixAt_2, ixAt_3, iEq_int, iNe_int, dAdd, iAdd, iSub, iNeg, iCmp, iLe, iLt, iGe, iGt, dMul, iMulT, iMul, iMod, iDiv, gIx, setIx, decide_true, decide_false, decide_eq_true_eq, Bool.not_eq_true, List.length_map, gets_ok, gets_bind, gets_ite, rsw_ite, rsw_seq, rsw_thn, rsw_nx, rsw_ret, rst_x, rsx_seq, rsx_nx, rsx_ret, rsx_brk, rsx_cont, rsx_ite, rsx_thn, gets_fnM, onlyP, Option.map_some, Src.items]
        cases st with
        | none =>
          simp only [eS, mVar, mK, mBin, mUn, mTru, mTest, mAnd, mOr, mNot, mAndV, mOrV, mNotV, mIf, mNil, mCons, mTup, mLst, mLstF, mCall, mChain, mIsi, fIsi, tyD, tyP, mSlice, oNo, oSome, mSeq, srcOf, mRange1, mRange2, sNext, sSeq, sIf, sRet, sRetN, sExpr, sSet, sAsg, sAug, sFor, sRaise, gSet, gMore, gNone, Mp.gTup, mMeth, fAppend, mEnum, srcEnum, mDNew, fLen, fInt, truth, ptruth, asB, pp1, pp2, ret1, dIs, isN, allP, frzD, mFrz, List.map_cons, List.map_nil, List.cons_append, List.nil_append, List.length_cons, List.length_nil, List.getElem?_cons_zero, List.getElem?_cons_succ, List.getElem?_nil, List.set_cons_zero, List.set_cons_succ, if_true, ite_true, Nat.reduceAdd, Nat.reduceSub, List.replicate, Bool.false_eq_true, if_false, Bool.not_true, Bool.not_false, mp_ft, mp_tf, isTy, beq_self_eq_true, isi0, isi1, isi2, isi3, isi4, isi5, isi6, isi7, isi8, isi9, isi10, isi11, isi12, isi13, isi14, isi15, isi16, isi17, isi18, isi19, isi20, isi21, isi22, isi23, isi24, isi25, isi26, isi27, isi28, isi29, isi30, isi31, isi32, isi33, isi34, isi35, isi36, isi37, isi38, isi39, isi40, isi41, onlyF, dIx_tup, dIx_lst, dIx_ref, ixAt_0, ixAt_1, ixAt_2, ixAt_3, iEq_int, iNe_int, dAdd, iAdd, iSub, iNeg, iCmp, iLe, iLt, iGe, iGt, dMul, iMulT, iMul, iMod, iDiv, gIx, setIx, decide_true, decide_false, decide_eq_true_eq, Bool.not_eq_true, List.length_map, gets_ok, gets_bind, gets_ite, rsw_ite, rsw_seq, rsw_thn, rsw_nx, rsw_ret, rst_x, rsx_seq, rsx_nx, rsx_ret, rsx_brk, rsx_cont, rsx_ite, rsx_thn, gets_fnM, onlyP, Option.map_some, Src.items]
          exact ⟨r1, fs1, ls1, _, rfl, fun s hs => hsub s (List.mem_cons_of_mem _ hs), nd1, hr1, h01, hq1, hl1, hc1, fun r hr => (hn1 r hr).imp id fun ⟨a, ha⟩ => ⟨a, by simpa using ha⟩, hm1, rfl, rfl⟩
        | some p =>
          have hp1 : p.2 ∈ m.nx q := List.mem_filterMap.mpr ⟨some p, hsub _ List.mem_cons_self, rfl⟩
          have hrp : m.Rch 0 p.2 := (hr1 q hq1).step hp1
          simp only [eS, mVar, mK, mBin, mUn, mTru, mTest, mAnd, mOr, mNot, mAndV, mOrV, mNotV, mIf, mNil, mCons, mTup, mLst, mLstF, mCall, mChain, mIsi, fIsi, tyD, tyP, mSlice, oNo, oSome, mSeq, srcOf, mRange1, mRange2, sNext, sSeq, sIf, sRet, sRetN, sExpr, sSet, sAsg, sAug, sFor, sRaise, gSet, gMore, gNone, Mp.gTup, mMeth, fAppend, mEnum, srcEnum, mDNew, fLen, fInt, truth, ptruth, asB, pp1, pp2, ret1, dIs, isN, allP, frzD, mFrz, List.map_cons, List.map_nil, List.cons_append, List.nil_append, List.length_cons, List.length_nil, List.getElem?_cons_zero, List.getElem?_cons_succ, List.getElem?_nil, List.set_cons_zero, List.set_cons_succ, if_true, ite_true, Nat.reduceAdd, Nat.reduceSub, List.replicate, Bool.false_eq_true, if_false, Bool.not_true, Bool.not_false, mp_ft, mp_tf, isTy, beq_self_eq_true, isi0, isi1, isi2, isi3, isi4, isi5, isi6, isi7, isi8, isi9, isi10, isi11, isi12, isi13, isi14, isi15, isi16, isi17, isi18, isi19, isi20, isi21, isi22, isi23, isi24, isi25, isi26, isi27, isi28, isi29, isi30, isi31, isi32, isi33, isi34, isi35, isi36, isi37, isi38, isi39, isi40, isi41, onlyF, dIx_tup, dIx_lst, dIx_ref, ixAt_0, ixAt_1, ixAt_2, ixAt_3, iEq_int, iNe_int, dAdd, iAdd, iSub, iNeg, iCmp, iLe, iLt, iGe, iGt, dMul, iMulT, iMul, iMod, iDiv, gIx, setIx, decide_true, decide_false, decide_eq_true_eq, Bool.not_eq_true, List.length_map, gets_ok, gets_bind, gets_ite, rsw_ite, rsw_seq, rsw_thn, rsw_nx, rsw_ret, rst_x, rsx_seq, rsx_nx, rsx_ret, rsx_brk, rsx_cont, rsx_ite, rsx_thn, gets_fnM, onlyP, Option.map_some, Src.items, notin_ref (i := 0) (fs := fs1) (s := ⟨[some (.dct (eK fs1)), some (.lst (ls1.map fun q => D.p (eN q)))], s.w⟩) rfl]
          by_cases hin : p.2 ∈ fs1
          · simp only [hin, mVar, mK, mBin, mUn, mTru, mTest, mAnd, mOr, mNot, mAndV, mOrV, mNotV, mIf, mNil, mCons, mTup, mLst, mLstF, mCall, mChain, mIsi, fIsi, tyD, tyP, mSlice, oNo, oSome, mSeq, srcOf, mRange1, mRange2, sNext, sSeq, sIf, sRet, sRetN, sExpr, sSet, sAsg, sAug, sFor, sRaise, gSet, gMore, gNone, Mp.gTup, mMeth, fAppend, mEnum, srcEnum, mDNew, fLen, fInt, truth, ptruth, asB, pp1, pp2, ret1, dIs, isN, allP, frzD, mFrz, List.map_cons, List.map_nil, List.cons_append, List.nil_append, List.length_cons, List.length_nil, List.getElem?_cons_zero, List.getElem?_cons_succ, List.getElem?_nil, List.set_cons_zero, List.set_cons_succ, if_true, ite_true, Nat.reduceAdd, Nat.reduceSub, List.replicate, Bool.false_eq_true, if_false, Bool.not_true, Bool.not_false, mp_ft, mp_tf, isTy, beq_self_eq_true, isi0, isi1, isi2, isi3, isi4, isi5, isi6, isi7, isi8, isi9, isi10, isi11, isi12, isi13, isi14, isi15, isi16, isi17, isi18, isi19, isi20, isi21, isi22, isi23, isi24, isi25, isi26, isi27, isi28, isi29, isi30, isi31, isi32, isi33, isi34, isi35, isi36, isi37, isi38, isi39, isi40, isi41, onlyF, dIx_tup, dIx_lst, dIx_ref, ixAt_0, ixAt_1, ixAt_2, ixAt_3, iEq_int, iNe_int, dAdd, iAdd, iSub, iNeg, iCmp, iLe, iLt, iGe, iGt, dMul, iMulT, iMul, iMod, iDiv, gIx, setIx, decide_true, decide_false, decide_eq_true_eq, Bool.not_eq_true, List.length_map, gets_ok, gets_bind, gets_ite, rsw_ite, rsw_seq, rsw_thn, rsw_nx, rsw_ret, rst_x, rsx_seq, rsx_nx, rsx_ret, rsx_brk, rsx_cont, rsx_ite, rsx_thn, gets_fnM, onlyP, Option.map_some, Src.items]
            refine ⟨r1, fs1, ls1, _, rfl, fun s hs => hsub s (List.mem_cons_of_mem _ hs), nd1, hr1, h01, hq1, hl1, hc1, fun r hr => ?_, hm1, rfl, rfl⟩
            rcases hn1 r hr with h | ⟨a, ha⟩
            · exact .inl h
            · rcases List.mem_cons.mp ha with h | h
              · cases h; exact .inl hin
              · exact .inr ⟨a, h⟩
          · have nd2 : (fs1 ++ [p.2]).Nodup := by
              rw [List.nodup_append]
              refine ⟨nd1, by simp, ?_⟩
              simp only [List.mem_singleton, forall_eq, ne_eq]
              exact fun a ha e => hin (e ▸ ha)
            have hr2 : ∀ x ∈ fs1 ++ [p.2], m.Rch 0 x := by
              intro x hx
              rcases List.mem_append.mp hx with h | h
              · exact hr1 x h
              · rw [List.mem_singleton.mp h]; exact hrp
            have hb := bound _ nd2 hr2
            have h30 := hm.r30
            rw [List.length_append, List.length_singleton] at hb
            have zf : Mp.sizeOk (fs1.length + 1) = true := sizeOk_of (by omega)
            have hz2 : ls1.length ≤ 100 := by
              simp only [List.concat_eq_append, List.length_append, List.length_singleton] at h60
              omega
            have zl : Mp.sizeOk (ls1.length + 1) = true := sizeOk_of (by omega)
            simp only [hin, mVar, mK, mBin, mUn, mTru, mTest, mAnd, mOr, mNot, mAndV, mOrV, mNotV, mIf, mNil, mCons, mTup, mLst, mLstF, mCall, mChain, mIsi, fIsi, tyD, tyP, mSlice, oNo, oSome, mSeq, srcOf, mRange1, mRange2, sNext, sSeq, sIf, sRet, sRetN, sExpr, sSet, sAsg, sAug, sFor, sRaise, gSet, gMore, gNone, Mp.gTup, mMeth, fAppend, mEnum, srcEnum, mDNew, fLen, fInt, truth, ptruth, asB, pp1, pp2, ret1, dIs, isN, allP, frzD, mFrz, List.map_cons, List.map_nil, List.cons_append, List.nil_append, List.length_cons, List.length_nil, List.getElem?_cons_zero, List.getElem?_cons_succ, List.getElem?_nil, List.set_cons_zero, List.set_cons_succ, if_true, ite_true, Nat.reduceAdd, Nat.reduceSub, List.replicate, Bool.false_eq_true, if_false, Bool.not_true, Bool.not_false, mp_ft, mp_tf, isTy, beq_self_eq_true, isi0, isi1, isi2, isi3, isi4, isi5, isi6, isi7, isi8, isi9, isi10, isi11, isi12, isi13, isi14, isi15, isi16, isi17, isi18, isi19, isi20, isi21, isi22, isi23, isi24, isi25, isi26, isi27, isi28, isi29, isi30, isi31, isi32, isi33, isi34, isi35, isi36, isi37, isi38, isi39, isi40, isi41, onlyF, dIx_tup, dIx_lst, dIx_ref, ixAt_0, ixAt_1, ixAt_2, ixAt_3, iEq_int, iNe_int, dAdd, iAdd, iSub, iNeg, iCmp, iLe, iLt, iGe, iGt, dMul, iMulT, iMul, iMod, iDiv, gIx, setIx, decide_true, decide_false, decide_eq_true_eq, Bool.not_eq_true, List.length_map, gets_ok, gets_bind, gets_ite, rsw_ite, rsw_seq, rsw_thn, rsw_nx, rsw_ret, rst_x, rsx_seq, rsx_nx, rsx_ret, rsx_brk, rsx_cont, rsx_ite, rsx_thn, gets_fnM, onlyP, Option.map_some, Src.items, gDk, setDk, keyOf, eK_len, eK_set hin, zf, zl]
            refine ⟨r1, fs1 ++ [p.2], ls1 ++ [p.2], _, rfl, fun s hs => hsub s (List.mem_cons_of_mem _ hs), nd2, hr2, by simp [h01], by simp [hq1], ?_, ?_, fun r hr => ?_, by simp only [List.length_append, List.length_singleton]; omega, by simp [eN], rfl⟩
            · intro x hx
              rcases List.mem_append.mp hx with h | h
              · exact List.mem_append_left _ (hl1 x h)
              · exact List.mem_append_right _ h
            · intro x hx hxl hxq r hr
              rcases List.mem_append.mp hx with h | h
              · exact List.mem_append_left _ (hc1 x h (fun z => hxl (List.mem_append_left _ z)) hxq r hr)
              · exact absurd (List.mem_append_right _ h) hxl
            · rcases hn1 r hr with h | ⟨a, ha⟩
              · exact .inl (List.mem_append_left _ h)
              · rcases List.mem_cons.mp ha with h | h
                · cases h; exact .inl (by simp)
                · exact .inr ⟨a, h⟩
    · rintro e s' ⟨r1, fs1, ls1, e3, hx, hsub, nd1, hr1, h01, hq1, hl1, hc1, hn1, hm1, rfl, rfl⟩
      cases r1 with
      | cons st r1 => cases hx
      | nil =>
        simp only [List.concat_eq_append, List.length_append, List.length_singleton] at h60
        refine ⟨_, ?_, fs1, ls1, e3, nd1, hr1, h01, hl1, fun x hx hxl r hr => ?_, rfl, ?_, rfl, rfl⟩
        · omega
        · by_cases e : x = q
          · subst e
            exact (hn1 r hr).elim id fun ⟨a, ha⟩ => absurd ha (by simp)
          · exact hc1 x hx hxl e r hr
        · omega
    · refine ⟨(m.row q).ss, fs, ls, e3, rfl, fun s hs => hs, nd, hr, h00, hq, fun x hx => hl x (List.mem_append_left _ hx), fun x hx hxl hxq r hr => hc x hx (by simp [hxl, hxq]) r hr, fun r hr => ?_, Nat.le_refl _, rfl, rfl⟩
      obtain ⟨s, hs, e⟩ := List.mem_filterMap.mp hr
      obtain ⟨p, rfl, rfl⟩ := Option.map_eq_some_iff.mp e
      exact .inr ⟨p.1, hs⟩

/-! ending -/
theorem sc_ending : FnScope ["machine", "found", "state", "row", "grown", "step"] ["machine"] (defScope t_ending) := ⟨rfl, rfl, rfl, by decide +kernel, rfl, by decide +kernel, by decide +kernel⟩
theorem bn_ending : BindN "ending" t_ending ["machine"] := fun _ _ _ _ _ _ us hl => match us, hl with | [_], _ => rfl
noncomputable def b_ending : MS := (sSeq (sSet 1 (mDc (mEnum (mBin dIx (mVar 0) (mK (.int 1)))) [2, 3] (gTup 2 (mgs [2, 3])) (mTest (mBin (dIs false) (mBin dIx (mVar 3) (mK (.int 0))) (mK .none))) (mVar 2) (mK (.bool true)) newDct)) (sSeq (sSet 4 (mK (.bool true))) (sSeq (sWhile (mTru (mVar 4)) (sSeq (sSet 4 (mK (.bool false))) (sFor (mEnum (mBin dIx (mVar 0) (mK (.int 1)))) (gTup 2 (gMore (gSet 2) (gMore (gSet 3) gNone))) (sIf (mAnd (mTest (mBin dNotIn (mVar 2) (mVar 1))) (mTru (mCall fAny (mCons (mLc (mSeq (mBin dIx (mVar 3) (mK (.int 1)))) [5] (gSet 5) mYes (mAndV (mBin (dIs false) (mVar 5) (mK .none)) (mBin dIn (mBin dIx (mVar 5) (mK (.int 1))) (mVar 1))) kFrz) mNil)))) (sSeq (sAsg (mK (.bool true)) (gDk (mVar 1) (mVar 2))) (sSet 4 (mK (.bool true)))) sNext)))) (sRet (mFrz (mVar 1))))))
theorem raw_ending (N : Nm K mg) : DefOk P w K mg base "ending" 1 1 (fnM 1 6 b_ending) := def_mk N.d_ending sc_ending bn_ending rfl rfl fun f cdv A outer s H E hr nd tk hp => (ss_cons (s_set (i := 1) nd (e_dcO (own := [("state", 2), ("row", 3)]) rfl nd (i_enum rfl N.f_enumerate (e_ix (e_var (i := 0)) (e_gint N.i_ROWS))) (blkOk_by (N := ["machine", "found", "state", "row", "grown", "step"]) (sc := defScope t_ending) (own := [("state", 2), ("row", 3)]) (by decide +kernel)) (tg_tup (is := [2, 3]) (n := 2) (by decide)) (fun _ _ _ _ _ => pg_tup rfl (pgs_cons (pg_name (i := 2) nd rfl (by first | exact Or.inl rfl | exact Or.inr rfl)) (pgs_cons (pg_name (i := 3) nd rfl (by first | exact Or.inl rfl | exact Or.inr rfl)) pgs_nil))) (fun _ _ _ _ _ => (c_if (t_cmp o_isnot (e_ix (e_var (i := 3)) e_int) e_none (nomark _)))) (fun _ _ _ _ _ => (e_var (i := 2))) (fun _ _ _ _ _ => e_bool))) (ss_cons (s_set (i := 4) nd e_bool) (ss_cons (s_while hp (t_tru (e_var (i := 4))) (ss_cons (s_set (i := 4) nd e_bool) (ss_one (s_for hp rfl (i_enum rfl N.f_enumerate (e_ix (e_var (i := 0)) (e_gint N.i_ROWS))) (g_tup rfl (gs_cons (g_name (i := 2) nd) (gs_cons (g_name (i := 3) nd) gs_nil QuietG.none) (QuietG.more Quiet1.set QuietG.none))) (ss_one (s_if (t_w (w_and (t_cmp (o_notin (hu65 hr)) (e_var (i := 2)) (e_var (i := 1)) rfl) (w_and1 (t_tru (e_bi (b_any rfl) rfl N.f_any bt_any (a_cons (e_lcF (own := [("step", 5)]) rfl nd (i_seq (e_ix (e_var (i := 3)) e_int)) (blkOk_by (N := ["machine", "found", "state", "row", "grown", "step"]) (sc := defScope t_ending) (own := [("step", 5)]) (by decide +kernel)) (tg_name (i := 5) (by decide)) (fun _ _ _ _ _ => pg_name (i := 5) nd rfl (by first | exact Or.inl rfl | exact Or.inr rfl)) (fun _ _ _ _ _ => c_no) (fun _ _ _ _ _ => (e_and (e_cmp o_isnot (e_var (i := 5)) e_none (nomark _)) (e_one (e_cmp (o_in (hu65 hr)) (e_ix (e_var (i := 5)) e_int) (e_var (i := 1)) rfl))))) a_nil)))))) (ss_cons (s_asg e_bool (g_dk (hu1 hr) (e_var (i := 1)) (e_var (i := 2)))) (ss_one (s_set (i := 4) nd e_bool))) ss_nil)))))) (ss_one (s_ret (e_frz (e_var (i := 1))))))))
theorem Mx_ending : ∃ f : List D → S → R D, f = pureRun (fnM 1 6 b_ending) := ⟨_, rfl⟩
noncomputable def M_ending : List D → S → R D := Classical.choose Mx_ending
theorem Me_ending : M_ending = pureRun (fnM 1 6 b_ending) := Classical.choose_spec Mx_ending
theorem ok_ending (N : Nm K mg) : DefOk P w K mg base "ending" 1 1 M_ending := by rw [Me_ending]; exact (raw_ending N).alone
theorem ending_eq {m : Mac} (hm : m.Ok) {s : S} : ∃ x, (∃ fs : List Nat, x = eFs fs ∧ fs.Nodup ∧ ∀ q, q ∈ fs ↔ q < m.rs.length ∧ m.Coe q) ∧ M_ending [.p (eM m)] s = .ok (.p x) s := by
  rw [Me_ending]; refine pure_ex rfl ?_
  have h30 := hm.r30
  have zl : Mp.sizeOk m.rs.length = true := sizeOk_of (by omega)
  have bound : ∀ fs : List Nat, fs.Nodup → (∀ x ∈ fs, x < m.rs.length ∧ m.Coe x) → fs.length ≤ m.rs.length := fun fs nd h => nd_len nd fun x hx => (h x hx).1
  simp only [b_ending, mVar, mK, mBin, mUn, mTru, mTest, mAnd, mOr, mNot, mAndV, mOrV, mNotV, mIf, mNil, mCons, mTup, mLst, mLstF, mCall, mChain, mIsi, fIsi, tyD, tyP, mSlice, oNo, oSome, mSeq, srcOf, mRange1, mRange2, sNext, sSeq, sIf, sRet, sRetN, sExpr, sSet, sAsg, sAug, sFor, sRaise, gSet, gMore, gNone, Mp.gTup, mMeth, fAppend, mEnum, srcEnum, mDNew, fLen, fInt, truth, ptruth, asB, pp1, pp2, ret1, dIs, isN, allP, frzD, mFrz, List.map_cons, List.map_nil, List.cons_append, List.nil_append, List.length_cons, List.length_nil, List.getElem?_cons_zero, List.getElem?_cons_succ, List.getElem?_nil, List.set_cons_zero, List.set_cons_succ, if_true, ite_true, Nat.reduceAdd, Nat.reduceSub, List.replicate, Bool.false_eq_true, if_false, Bool.not_true, Bool.not_false, mp_ft, mp_tf, isTy, beq_self_eq_true, isi0, isi1, isi2, isi3, isi4, isi5, isi6, isi7, isi8, isi9, isi10, isi11, isi12, isi13, isi14, isi15, isi16, isi17, isi18, isi19, isi20, isi21, isi22, isi23, isi24, isi25, isi26, isi27, isi28, isi29, isi30, isi31, isi32, isi33, isi34, isi35, isi36, isi37, isi38, isi39, isi40, isi41, onlyF, dIx_tup, dIx_lst, dIx_ref, ixAt_0, ixAt_1, ixAt_2, ixAt_3, iEq_int, iNe_int, dAdd, iAdd, iSub, iNeg, iCmp, iLe, iLt, iGe, iGt, dMul, iMulT, iMul, iMod, iDiv, gIx, setIx, decide_true, decide_false, decide_eq_true_eq, Bool.not_eq_true, List.length_map, gets_ok, gets_bind, gets_ite, rsw_ite, rsw_seq, rsw_thn, rsw_nx, rsw_ret, rst_x, rsx_seq, rsx_nx, rsx_ret, rsx_brk, rsx_cont, rsx_ite, rsx_thn, gets_fnM, onlyP, Option.map_some, Src.items, mDc, ix_M1, enumRows, List.length_range, zl, wipeE]
  rw [dc_gen (ev := fun q : Nat => [some (D.p (eM m)), none, some (.p (.int q)), some (.p (eR (m.row q))), none, none]) (kp := fun q : Nat => .int q) (ke := fun q : Nat => .inl (q : Int)) (f := fun _ => .p (.bool true)) (p := fun q => (m.row q).fin.isSome) trivial (fun _ => rfl)]
  rotate_left
  · exact fun q hq => rfl
  · intro q hq
    simp only [pureRun, onlyP, fnM, mVar, mK, mBin, mUn, mTru, mTest, mAnd, mOr, mNot, mAndV, mOrV, mNotV, mIf, mNil, mCons, mTup, mLst, mLstF, mCall, mChain, mIsi, fIsi, tyD, tyP, mSlice, oNo, oSome, mSeq, srcOf, mRange1, mRange2, sNext, sSeq, sIf, sRet, sRetN, sExpr, sSet, sAsg, sAug, sFor, sRaise, gSet, gMore, gNone, Mp.gTup, mMeth, fAppend, mEnum, srcEnum, mDNew, fLen, fInt, truth, ptruth, asB, pp1, pp2, ret1, dIs, isN, allP, frzD, mFrz, Mp.R.bind, R.thn, RS.seq, List.map_cons, List.map_nil, List.cons_append, List.nil_append, List.length_cons, List.length_nil, List.getElem?_cons_zero, List.getElem?_cons_succ, List.getElem?_nil, List.set_cons_zero, List.set_cons_succ, if_true, ite_true, Nat.reduceAdd, Nat.reduceSub, List.replicate, Bool.false_eq_true, if_false, Bool.not_true, Bool.not_false, mp_ft, mp_tf, isTy, beq_self_eq_true, isi0, isi1, isi2, isi3, isi4, isi5, isi6, isi7, isi8, isi9, isi10, isi11, isi12, isi13, isi14, isi15, isi16, isi17, isi18, isi19, isi20, isi21, isi22, isi23, isi24, isi25, isi26, isi27, isi28, isi29, isi30, isi31, isi32, isi33, isi34, isi35, isi36, isi37, isi38, isi39, isi40, isi41, onlyF, dIx_tup, dIx_lst, dIx_ref, ixAt_0, ixAt_1, ixAt_2, ixAt_3, iEq_int, iNe_int, dAdd, iAdd, iSub, iNeg, iCmp, iLe, iLt, iGe, iGt, dMul, iMulT, iMul, iMod, iDiv, gIx, setIx, decide_true, decide_false, decide_eq_true_eq, Bool.not_eq_true, List.length_map, ix_R0]
    cases (m.row q).fin <;> rfl
  · exact fun q hq _ => rfl
  · exact fun q hq _ => rfl
  · exact fun q hq _ => by simp
  · refine List.Pairwise.map _ (fun a b h => ?_) (List.Pairwise.filter _ List.nodup_range)
    simpa using fun e : (a : Int) = b => h (Int.ofNat_inj.mp e)
  have e0 : ([] : List (L2.Key × D)) ++ ((List.range m.rs.length).filter fun q => (m.row q).fin.isSome).map (fun q : Nat => ((Sum.inl (q : Int) : L2.Key), D.p (.bool true))) = eK ((List.range m.rs.length).filter fun q => (m.row q).fin.isSome) := rfl
  rw [e0]
  simp only [newDct, mVar, mK, mBin, mUn, mTru, mTest, mAnd, mOr, mNot, mAndV, mOrV, mNotV, mIf, mNil, mCons, mTup, mLst, mLstF, mCall, mChain, mIsi, fIsi, tyD, tyP, mSlice, oNo, oSome, mSeq, srcOf, mRange1, mRange2, sNext, sSeq, sIf, sRet, sRetN, sExpr, sSet, sAsg, sAug, sFor, sRaise, gSet, gMore, gNone, Mp.gTup, mMeth, fAppend, mEnum, srcEnum, mDNew, fLen, fInt, truth, ptruth, asB, pp1, pp2, ret1, dIs, isN, allP, frzD, mFrz, List.map_cons, List.map_nil, List.cons_append, List.nil_append, List.length_cons, List.length_nil, List.getElem?_cons_zero, List.getElem?_cons_succ, List.getElem?_nil, List.set_cons_zero, List.set_cons_succ, if_true, ite_true, Nat.reduceAdd, Nat.reduceSub, List.replicate, Bool.false_eq_true, if_false, Bool.not_true, Bool.not_false, mp_ft, mp_tf, isTy, beq_self_eq_true, isi0, isi1, isi2, isi3, isi4, isi5, isi6, isi7, isi8, isi9, isi10, isi11, isi12, isi13, isi14, isi15, isi16, isi17, isi18, isi19, isi20, isi21, isi22, isi23, isi24, isi25, isi26, isi27, isi28, isi29, isi30, isi31, isi32, isi33, isi34, isi35, isi36, isi37, isi38, isi39, isi40, isi41, onlyF, dIx_tup, dIx_lst, dIx_ref, ixAt_0, ixAt_1, ixAt_2, ixAt_3, iEq_int, iNe_int, dAdd, iAdd, iSub, iNeg, iCmp, iLe, iLt, iGe, iGt, dMul, iMulT, iMul, iMod, iDiv, gIx, setIx, decide_true, decide_false, decide_eq_true_eq, Bool.not_eq_true, List.length_map, gets_ok, gets_bind, gets_ite, rsw_ite, rsw_seq, rsw_thn, rsw_nx, rsw_ret, rst_x, rsx_seq, rsx_nx, rsx_ret, rsx_brk, rsx_cont, rsx_ite, rsx_thn, gets_fnM, onlyP, Option.map_some, Src.items, List.nil_append]
  refine while_gets (J := fun n e s' => ∃ (fs : List Nat) (b : Bool) (e2 e3 e5 : Option D), fs.Nodup ∧ (∀ x ∈ fs, x < m.rs.length ∧ m.Coe x) ∧ (∀ q, q < m.rs.length → (m.row q).fin ≠ none → q ∈ fs) ∧ (b = false → ∀ q, q < m.rs.length → (∃ r ∈ m.nx q, r ∈ fs) → q ∈ fs) ∧
    n = m.rs.length - fs.length + (if b then 1 else 0) ∧ s' = ⟨[some (.dct (eK fs))], s.w⟩ ∧ e = [some (.p (eM m)), some (.ref 0), e2, e3, some (.p (.bool b)), e5]) ?_ _ _ _ ⟨_, true, none, none, none, List.Pairwise.filter _ List.nodup_range, ?_, ?_, (fun z => nomatch z), rfl, rfl, rfl⟩
  · rintro n e s' ⟨fs, b, e2, e3, e5, nd, hco, hfin, hcl, rfl, rfl, rfl⟩
    simp only [mVar, mK, mBin, mUn, mTru, mTest, mAnd, mOr, mNot, mAndV, mOrV, mNotV, mIf, mNil, mCons, mTup, mLst, mLstF, mCall, mChain, mIsi, fIsi, tyD, tyP, mSlice, oNo, oSome, mSeq, srcOf, mRange1, mRange2, sNext, sSeq, sIf, sRet, sRetN, sExpr, sSet, sAsg, sAug, sFor, sRaise, gSet, gMore, gNone, Mp.gTup, mMeth, fAppend, mEnum, srcEnum, mDNew, fLen, fInt, truth, ptruth, asB, pp1, pp2, ret1, dIs, isN, allP, frzD, mFrz, List.map_cons, List.map_nil, List.cons_append, List.nil_append, List.length_cons, List.length_nil, List.getElem?_cons_zero, List.getElem?_cons_succ, List.getElem?_nil, List.set_cons_zero, List.set_cons_succ, if_true, ite_true, Nat.reduceAdd, Nat.reduceSub, List.replicate, Bool.false_eq_true, if_false, Bool.not_true, Bool.not_false, mp_ft, mp_tf, isTy, beq_self_eq_true, isi0, isi1, isi2, isi3, isi4, isi5, isi6, isi7, isi8, isi9, isi10, isi11, isi12, isi13, isi14, isi15, isi16, isi17, isi18, isi19, isi20, isi21, isi22, isi23, isi24, isi25, isi26, isi27, isi28, isi29, isi30, isi31, isi32, isi33, isi34, isi35, isi36, isi37, isi38, isi39, isi40, isi41, onlyF, dIx_tup, dIx_lst, dIx_ref, ixAt_0, ixAt_1, ixAt_2, ixAt_3, iEq_int, iNe_int, dAdd, iAdd, iSub, iNeg, iCmp, iLe, iLt, iGe, iGt, dMul, iMulT, iMul, iMod, iDiv, gIx, setIx, decide_true, decide_false, decide_eq_true_eq, Bool.not_eq_true, List.length_map, gets_ok, gets_bind, gets_ite, rsw_ite, rsw_seq, rsw_thn, rsw_nx, rsw_ret, rst_x, rsx_seq, rsx_nx, rsx_ret, rsx_brk, rsx_cont, rsx_ite, rsx_thn, gets_fnM, onlyP, Option.map_some, Src.items]
    cases b with
    | false =>
      simp only [mVar, mK, mBin, mUn, mTru, mTest, mAnd, mOr, mNot, mAndV, mOrV, mNotV, mIf, mNil, mCons, mTup, mLst, mLstF, mCall, mChain, mIsi, fIsi, tyD, tyP, mSlice, oNo, oSome, mSeq, srcOf, mRange1, mRange2, sNext, sSeq, sIf, sRet, sRetN, sExpr, sSet, sAsg, sAug, sFor, sRaise, gSet, gMore, gNone, Mp.gTup, mMeth, fAppend, mEnum, srcEnum, mDNew, fLen, fInt, truth, ptruth, asB, pp1, pp2, ret1, dIs, isN, allP, frzD, mFrz, List.map_cons, List.map_nil, List.cons_append, List.nil_append, List.length_cons, List.length_nil, List.getElem?_cons_zero, List.getElem?_cons_succ, List.getElem?_nil, List.set_cons_zero, List.set_cons_succ, if_true, ite_true, Nat.reduceAdd, Nat.reduceSub, List.replicate, Bool.false_eq_true, if_false, Bool.not_true, Bool.not_false, mp_ft, mp_tf, isTy, beq_self_eq_true, isi0, isi1, isi2, isi3, isi4, isi5, isi6, isi7, isi8, isi9, isi10, isi11, isi12, isi13, isi14, isi15, isi16, isi17, isi18, isi19, isi20, isi21, isi22, isi23, isi24, isi25, isi26, isi27, isi28, isi29, isi30, isi31, isi32, isi33, isi34, isi35, isi36, isi37, isi38, isi39, isi40, isi41, onlyF, dIx_tup, dIx_lst, dIx_ref, ixAt_0, ixAt_1, ixAt_2, ixAt_3, iEq_int, iNe_int, dAdd, iAdd, iSub, iNeg, iCmp, iLe, iLt, iGe, iGt, dMul, iMulT, iMul, iMod, iDiv, gIx, setIx, decide_true, decide_false, decide_eq_true_eq, Bool.not_eq_true, List.length_map, gets_ok, gets_bind, gets_ite, rsw_ite, rsw_seq, rsw_thn, rsw_nx, rsw_ret, rst_x, rsx_seq, rsx_nx, rsx_ret, rsx_brk, rsx_cont, rsx_ite, rsx_thn, gets_fnM, onlyP, Option.map_some, Src.items, eK_all]
      exact ⟨trivial, _, rfl, fs, rfl, nd, fun q => ⟨hco q, fun k => Mac.Coe.closed hm hfin (hcl rfl) k.1 k.2⟩⟩
    | true =>
      simp only [mVar, mK, mBin, mUn, mTru, mTest, mAnd, mOr, mNot, mAndV, mOrV, mNotV, mIf, mNil, mCons, mTup, mLst, mLstF, mCall, mChain, mIsi, fIsi, tyD, tyP, mSlice, oNo, oSome, mSeq, srcOf, mRange1, mRange2, sNext, sSeq, sIf, sRet, sRetN, sExpr, sSet, sAsg, sAug, sFor, sRaise, gSet, gMore, gNone, Mp.gTup, mMeth, fAppend, mEnum, srcEnum, mDNew, fLen, fInt, truth, ptruth, asB, pp1, pp2, ret1, dIs, isN, allP, frzD, mFrz, List.map_cons, List.map_nil, List.cons_append, List.nil_append, List.length_cons, List.length_nil, List.getElem?_cons_zero, List.getElem?_cons_succ, List.getElem?_nil, List.set_cons_zero, List.set_cons_succ, if_true, ite_true, Nat.reduceAdd, Nat.reduceSub, List.replicate, Bool.false_eq_true, if_false, Bool.not_true, Bool.not_false, mp_ft, mp_tf, isTy, beq_self_eq_true, isi0, isi1, isi2, isi3, isi4, isi5, isi6, isi7, isi8, isi9, isi10, isi11, isi12, isi13, isi14, isi15, isi16, isi17, isi18, isi19, isi20, isi21, isi22, isi23, isi24, isi25, isi26, isi27, isi28, isi29, isi30, isi31, isi32, isi33, isi34, isi35, isi36, isi37, isi38, isi39, isi40, isi41, onlyF, dIx_tup, dIx_lst, dIx_ref, ixAt_0, ixAt_1, ixAt_2, ixAt_3, iEq_int, iNe_int, dAdd, iAdd, iSub, iNeg, iCmp, iLe, iLt, iGe, iGt, dMul, iMulT, iMul, iMod, iDiv, gIx, setIx, decide_true, decide_false, decide_eq_true_eq, Bool.not_eq_true, List.length_map, gets_ok, gets_bind, gets_ite, rsw_ite, rsw_seq, rsw_thn, rsw_nx, rsw_ret, rst_x, rsx_seq, rsx_nx, rsx_ret, rsx_brk, rsx_cont, rsx_ite, rsx_thn, gets_fnM, onlyP, Option.map_some, Src.items, ix_M1, enumRows]
      refine rsx_of (for_gets (J := fun xs e s' => ∃ (k : Nat) (fs1 : List Nat) (g : Bool) (e2 e3 e5 : Option D), xs = ((List.range m.rs.length).drop k).map (fun q : Nat => D.p (.tuple [.int (q : Int), eR (m.row q)])) ∧ k ≤ m.rs.length ∧ fs1.Nodup ∧ (∀ x ∈ fs1, x < m.rs.length ∧ m.Coe x) ∧ (∀ x ∈ fs, x ∈ fs1) ∧
        (g = true → fs.length < fs1.length) ∧ (g = false → fs1 = fs ∧ ∀ q, q < k → (∃ r ∈ m.nx q, r ∈ fs) → q ∈ fs) ∧ s' = ⟨[some (.dct (eK fs1))], s.w⟩ ∧ e = [some (.p (eM m)), some (.ref 0), e2, e3, some (.p (.bool g)), e5]) (fun _ _ _ _ => trivial) ?_ ?_ _ _ _ ?_)
      · rintro x xs e s' ⟨k, fs1, g, e2, e3, e5, hx, hk, nd1, hco1, hsub, hg1, hg2, rfl, rfl⟩
        by_cases hkl : k < m.rs.length
        rotate_left
        · rw [List.drop_of_length_le (by simpa using hkl)] at hx
          cases hx
        · rw [List.drop_eq_getElem_cons (by simpa using hkl)] at hx
          simp only [List.map_cons, List.getElem_range] at hx
          obtain ⟨rfl, rfl⟩ := List.cons.inj hx
          have hrl := (hm.row hkl).len
          have h8 := hm.n8
          have zr : Mp.sizeOk (m.row k).ss.length = true := sizeOk_of (by omega)
          simp only [mVar, mK, mBin, mUn, mTru, mTest, mAnd, mOr, mNot, mAndV, mOrV, mNotV, mIf, mNil, mCons, mTup, mLst, mLstF, mCall, mChain, mIsi, fIsi, tyD, tyP, mSlice, oNo, oSome, mSeq, srcOf, mRange1, mRange2, sNext, sSeq, sIf, sRet, sRetN, sExpr, sSet, sAsg, sAug, sFor, sRaise, gSet, gMore, gNone, Mp.gTup, mMeth, fAppend, mEnum, srcEnum, mDNew, fLen, fInt, truth, ptruth, asB, pp1, pp2, ret1, dIs, isN, allP, frzD, mFrz, List.map_cons, List.map_nil, List.cons_append, List.nil_append, List.length_cons, List.length_nil, List.getElem?_cons_zero, List.getElem?_cons_succ, List.getElem?_nil, List.set_cons_zero, List.set_cons_succ, if_true, ite_true, Nat.reduceAdd, Nat.reduceSub, List.replicate, Bool.false_eq_true, if_false, Bool.not_true, Bool.not_false, mp_ft, mp_tf, isTy, beq_self_eq_true, isi0, isi1, isi2, isi3, isi4, isi5, isi6, isi7, isi8, isi9, isi10, isi11, isi12, isi13, isi14, isi15, isi16, isi17, isi18, isi19, isi20, isi21, isi22, isi23, isi24, isi25, isi26, isi27, isi28, isi29, isi30, isi31, isi32, isi33, isi34, isi35, isi36, isi37, isi38, isi39, isi40, isi41, onlyF, dIx_tup, dIx_lst, dIx_ref, ixAt_0, ixAt_1, ixAt_2, ixAt_3, iEq_int, iNe_int, dAdd, iAdd, iSub, iNeg, iCmp, iLe, iLt, iGe, iGt, dMul, iMulT, iMul, iMod, iDiv, gIx, setIx, decide_true, decide_false, decide_eq_true_eq, Bool.not_eq_true, List.length_map, gets_ok, gets_bind, gets_ite, rsw_ite, rsw_seq, rsw_thn, rsw_nx, rsw_ret, rst_x, rsx_seq, rsx_nx, rsx_ret, rsx_brk, rsx_cont, rsx_ite, rsx_thn, gets_fnM, onlyP, Option.map_some, Src.items]
          simp only [notin_ref (i := 0) (fs := fs1) (s := ⟨[some (.dct (eK fs1))], s.w⟩) rfl, mVar, mK, mBin, mUn, mTru, mTest, mAnd, mOr, mNot, mAndV, mOrV, mNotV, mIf, mNil, mCons, mTup, mLst, mLstF, mCall, mChain, mIsi, fIsi, tyD, tyP, mSlice, oNo, oSome, mSeq, srcOf, mRange1, mRange2, sNext, sSeq, sIf, sRet, sRetN, sExpr, sSet, sAsg, sAug, sFor, sRaise, gSet, gMore, gNone, Mp.gTup, mMeth, fAppend, mEnum, srcEnum, mDNew, fLen, fInt, truth, ptruth, asB, pp1, pp2, ret1, dIs, isN, allP, frzD, mFrz, List.map_cons, List.map_nil, List.cons_append, List.nil_append, List.length_cons, List.length_nil, List.getElem?_cons_zero, List.getElem?_cons_succ, List.getElem?_nil, List.set_cons_zero, List.set_cons_succ, if_true, ite_true, Nat.reduceAdd, Nat.reduceSub, List.replicate, Bool.false_eq_true, if_false, Bool.not_true, Bool.not_false, mp_ft, mp_tf, isTy, beq_self_eq_true, isi0, isi1, isi2, isi3, isi4, isi5, isi6, isi7, isi8, isi9, isi10, isi11, isi12, isi13, isi14, isi15, isi16, isi17, isi18, isi19, isi20, isi21, isi22, isi23, isi24, isi25, isi26, isi27, isi28, isi29, isi30, isi31, isi32, isi33, isi34, isi35, isi36, isi37, isi38, isi39, isi40, isi41, onlyF, dIx_tup, dIx_lst, dIx_ref, ixAt_0, ixAt_1, ixAt_2, ixAt_3, iEq_int, iNe_int, dAdd, iAdd, iSub, iNeg, iCmp, iLe, iLt, iGe, iGt, dMul, iMulT, iMul, iMod, iDiv, gIx, setIx, decide_true, decide_false, decide_eq_true_eq, Bool.not_eq_true, List.length_map, gets_ok, gets_bind, gets_ite, rsw_ite, rsw_seq, rsw_thn, rsw_nx, rsw_ret, rst_x, rsx_seq, rsx_nx, rsx_ret, rsx_brk, rsx_cont, rsx_ite, rsx_thn, gets_fnM, onlyP, Option.map_some, Src.items]
          by_cases hin : k ∈ fs1
          · simp only [hin, mVar, mK, mBin, mUn, mTru, mTest, mAnd, mOr, mNot, mAndV, mOrV, mNotV, mIf, mNil, mCons, mTup, mLst, mLstF, mCall, mChain, mIsi, fIsi, tyD, tyP, mSlice, oNo, oSome, mSeq, srcOf, mRange1, mRange2, sNext, sSeq, sIf, sRet, sRetN, sExpr, sSet, sAsg, sAug, sFor, sRaise, gSet, gMore, gNone, Mp.gTup, mMeth, fAppend, mEnum, srcEnum, mDNew, fLen, fInt, truth, ptruth, asB, pp1, pp2, ret1, dIs, isN, allP, frzD, mFrz, List.map_cons, List.map_nil, List.cons_append, List.nil_append, List.length_cons, List.length_nil, List.getElem?_cons_zero, List.getElem?_cons_succ, List.getElem?_nil, List.set_cons_zero, List.set_cons_succ, if_true, ite_true, Nat.reduceAdd, Nat.reduceSub, List.replicate, Bool.false_eq_true, if_false, Bool.not_true, Bool.not_false, mp_ft, mp_tf, isTy, beq_self_eq_true, isi0, isi1, isi2, isi3, isi4, isi5, isi6, isi7, isi8, isi9, isi10, isi11, isi12, isi13, isi14, isi15, isi16, isi17, isi18, isi19, isi20, isi21, isi22, isi23, isi24, isi25, isi26, isi27, isi28, isi29, isi30, isi31, isi32, isi33, isi34, isi35, isi36, isi37, isi38, isi39, isi40, isi41, onlyF, dIx_tup, dIx_lst, dIx_ref, ixAt_0, ixAt_1, ixAt_2, ixAt_3, iEq_int, iNe_int, dAdd, iAdd, iSub, iNeg, iCmp, iLe, iLt, iGe, iGt, dMul, iMulT, iMul, iMod, iDiv, gIx, setIx, decide_true, decide_false, decide_eq_true_eq, Bool.not_eq_true, List.length_map, gets_ok, gets_bind, gets_ite, rsw_ite, rsw_seq, rsw_thn, rsw_nx, rsw_ret, rst_x, rsx_seq, rsx_nx, rsx_ret, rsx_brk, rsx_cont, rsx_ite, rsx_thn, gets_fnM, onlyP, Option.map_some, Src.items]
            refine ⟨k + 1, fs1, g, _, _, _, rfl, hkl, nd1, hco1, hsub, hg1, fun z => ⟨(hg2 z).1, fun q hq hr => ?_⟩, rfl, rfl⟩
            by_cases e : q = k
            · subst e; exact (hg2 z).1 ▸ hin
            · exact (hg2 z).2 q (by omega) hr
          · simp only [hin, mVar, mK, mBin, mUn, mTru, mTest, mAnd, mOr, mNot, mAndV, mOrV, mNotV, mIf, mNil, mCons, mTup, mLst, mLstF, mCall, mChain, mIsi, fIsi, tyD, tyP, mSlice, oNo, oSome, mSeq, srcOf, mRange1, mRange2, sNext, sSeq, sIf, sRet, sRetN, sExpr, sSet, sAsg, sAug, sFor, sRaise, gSet, gMore, gNone, Mp.gTup, mMeth, fAppend, mEnum, srcEnum, mDNew, fLen, fInt, truth, ptruth, asB, pp1, pp2, ret1, dIs, isN, allP, frzD, mFrz, List.map_cons, List.map_nil, List.cons_append, List.nil_append, List.length_cons, List.length_nil, List.getElem?_cons_zero, List.getElem?_cons_succ, List.getElem?_nil, List.set_cons_zero, List.set_cons_succ, if_true, ite_true, Nat.reduceAdd, Nat.reduceSub, List.replicate, Bool.false_eq_true, if_false, Bool.not_true, Bool.not_false, mp_ft, mp_tf, isTy, beq_self_eq_true, isi0, isi1, isi2, isi3, isi4, isi5, isi6, isi7, isi8, isi9, isi10, isi11, isi12, isi13, isi14, isi15, isi16, isi17, isi18, isi19, isi20, isi21, isi22, isi23, isi24, isi25, isi26, isi27, isi28, isi29, isi30, isi31, isi32, isi33, isi34, isi35, isi36, isi37, isi38, isi39, isi40, isi41, onlyF, dIx_tup, dIx_lst, dIx_ref, ixAt_0, ixAt_1, ixAt_2, ixAt_3, iEq_int, iNe_int, dAdd, iAdd, iSub, iNeg, iCmp, iLe, iLt, iGe, iGt, dMul, iMulT, iMul, iMod, iDiv, gIx, setIx, decide_true, decide_false, decide_eq_true_eq, Bool.not_eq_true, List.length_map, gets_ok, gets_bind, gets_ite, rsw_ite, rsw_seq, rsw_thn, rsw_nx, rsw_ret, rst_x, rsx_seq, rsx_nx, rsx_ret, rsx_brk, rsx_cont, rsx_ite, rsx_thn, gets_fnM, onlyP, Option.map_some, Src.items, mLc, ix_R1, wipeE, zr, map_map]
            rw [lc_map (f := fun s : MSt => D.p (.bool (match s with | none => false | some p => decide (p.2 ∈ fs1)))) trivial]
            rotate_left
            · intro s hs
              cases s with
              | none => simp only [eS, pureRun, onlyP, fnM, mVar, mK, mBin, mUn, mTru, mTest, mAnd, mOr, mNot, mAndV, mOrV, mNotV, mIf, mNil, mCons, mTup, mLst, mLstF, mCall, mChain, mIsi, fIsi, tyD, tyP, mSlice, oNo, oSome, mSeq, srcOf, mRange1, mRange2, sNext, sSeq, sIf, sRet, sRetN, sExpr, sSet, sAsg, sAug, sFor, sRaise, gSet, gMore, gNone, Mp.gTup, mMeth, fAppend, mEnum, srcEnum, mDNew, fLen, fInt, truth, ptruth, asB, pp1, pp2, ret1, dIs, isN, allP, frzD, mFrz, Mp.R.bind, R.thn, RS.seq, List.map_cons, List.map_nil, List.cons_append, List.nil_append, List.length_cons, List.length_nil, List.getElem?_cons_zero, List.getElem?_cons_succ, List.getElem?_nil, List.set_cons_zero, List.set_cons_succ, if_true, ite_true, Nat.reduceAdd, Nat.reduceSub, List.replicate, Bool.false_eq_true, if_false, Bool.not_true, Bool.not_false, mp_ft, mp_tf, isTy, beq_self_eq_true, isi0, isi1, isi2, isi3, isi4, isi5, isi6, isi7, isi8, isi9, isi10, isi11, isi12, isi13, isi14, isi15, isi16, isi17, isi18, isi19, isi20, isi21, isi22, isi23, isi24, isi25, isi26, isi27, isi28, isi29, isi30, isi31, isi32, isi33, isi34, isi35, isi36, isi37, isi38, isi39, isi40, isi41, onlyF, dIx_tup, dIx_lst, dIx_ref, ixAt_0, ixAt_1, ixAt_2, ixAt_3, iEq_int, iNe_int, dAdd, iAdd, iSub, iNeg, iCmp, iLe, iLt, iGe, iGt, dMul, iMulT, iMul, iMod, iDiv, gIx, setIx, decide_true, decide_false, decide_eq_true_eq, Bool.not_eq_true, List.length_map]
              | some p =>
                simp only [eS, pureRun, onlyP, fnM, mVar, mK, mBin, mUn, mTru, mTest, mAnd, mOr, mNot, mAndV, mOrV, mNotV, mIf, mNil, mCons, mTup, mLst, mLstF, mCall, mChain, mIsi, fIsi, tyD, tyP, mSlice, oNo, oSome, mSeq, srcOf, mRange1, mRange2, sNext, sSeq, sIf, sRet, sRetN, sExpr, sSet, sAsg, sAug, sFor, sRaise, gSet, gMore, gNone, Mp.gTup, mMeth, fAppend, mEnum, srcEnum, mDNew, fLen, fInt, truth, ptruth, asB, pp1, pp2, ret1, dIs, isN, allP, frzD, mFrz, Mp.R.bind, R.thn, RS.seq, List.map_cons, List.map_nil, List.cons_append, List.nil_append, List.length_cons, List.length_nil, List.getElem?_cons_zero, List.getElem?_cons_succ, List.getElem?_nil, List.set_cons_zero, List.set_cons_succ, if_true, ite_true, Nat.reduceAdd, Nat.reduceSub, List.replicate, Bool.false_eq_true, if_false, Bool.not_true, Bool.not_false, mp_ft, mp_tf, isTy, beq_self_eq_true, isi0, isi1, isi2, isi3, isi4, isi5, isi6, isi7, isi8, isi9, isi10, isi11, isi12, isi13, isi14, isi15, isi16, isi17, isi18, isi19, isi20, isi21, isi22, isi23, isi24, isi25, isi26, isi27, isi28, isi29, isi30, isi31, isi32, isi33, isi34, isi35, isi36, isi37, isi38, isi39, isi40, isi41, onlyF, dIx_tup, dIx_lst, dIx_ref, ixAt_0, ixAt_1, ixAt_2, ixAt_3, iEq_int, iNe_int, dAdd, iAdd, iSub, iNeg, iCmp, iLe, iLt, iGe, iGt, dMul, iMulT, iMul, iMod, iDiv, gIx, setIx, decide_true, decide_false, decide_eq_true_eq, Bool.not_eq_true, List.length_map]
                exact in_ref (i := 0) (fs := fs1) rfl
            simp only [mVar, mK, mBin, mUn, mTru, mTest, mAnd, mOr, mNot, mAndV, mOrV, mNotV, mIf, mNil, mCons, mTup, mLst, mLstF, mCall, mChain, mIsi, fIsi, tyD, tyP, mSlice, oNo, oSome, mSeq, srcOf, mRange1, mRange2, sNext, sSeq, sIf, sRet, sRetN, sExpr, sSet, sAsg, sAug, sFor, sRaise, gSet, gMore, gNone, Mp.gTup, mMeth, fAppend, mEnum, srcEnum, mDNew, fLen, fInt, truth, ptruth, asB, pp1, pp2, ret1, dIs, isN, allP, frzD, mFrz, List.map_cons, List.map_nil, List.cons_append, List.nil_append, List.length_cons, List.length_nil, List.getElem?_cons_zero, List.getElem?_cons_succ, List.getElem?_nil, List.set_cons_zero, List.set_cons_succ, if_true, ite_true, Nat.reduceAdd, Nat.reduceSub, List.replicate, Bool.false_eq_true, if_false, Bool.not_true, Bool.not_false, mp_ft, mp_tf, isTy, beq_self_eq_true, isi0, isi1, isi2, isi3, isi4, isi5, isi6, isi7, isi8, isi9, isi10, isi11, isi12, isi13, isi14, isi15, isi16, isi17, isi18, isi19, isi20, isi21, isi22, isi23, isi24, isi25, isi26, isi27, isi28, isi29, isi30, isi31, isi32, isi33, isi34, isi35, isi36, isi37, isi38, isi39, isi40, isi41, onlyF, dIx_tup, dIx_lst, dIx_ref, ixAt_0, ixAt_1, ixAt_2, ixAt_3, iEq_int, iNe_int, dAdd, iAdd, iSub, iNeg, iCmp, iLe, iLt, iGe, iGt, dMul, iMulT, iMul, iMod, iDiv, gIx, setIx, decide_true, decide_false, decide_eq_true_eq, Bool.not_eq_true, List.length_map, gets_ok, gets_bind, gets_ite, rsw_ite, rsw_seq, rsw_thn, rsw_nx, rsw_ret, rst_x, rsx_seq, rsx_nx, rsx_ret, rsx_brk, rsx_cont, rsx_ite, rsx_thn, gets_fnM, onlyP, Option.map_some, Src.items, kFrz, allP_map, fAny, lstP, Option.bind_some, Mp.allB_map]
            by_cases hany : ∃ r ∈ m.nx k, r ∈ fs1
            · obtain ⟨r, hr, hrf⟩ := hany
              obtain ⟨s1, hs1, e1⟩ := List.mem_filterMap.mp hr
              obtain ⟨p, rfl, rfl⟩ := Option.map_eq_some_iff.mp e1
              have ea : ((m.row k).ss.map fun s : MSt => (match s with | none => false | some p => decide (p.2 ∈ fs1))).any id = true := by
                rw [List.any_eq_true]
                exact ⟨_, List.mem_map.mpr ⟨_, hs1, rfl⟩, by simpa using hrf⟩
              have nd2 : (fs1 ++ [k]).Nodup := by
                rw [List.nodup_append]
                refine ⟨nd1, by simp, ?_⟩
                simp only [List.mem_singleton, forall_eq, ne_eq]
                exact fun a ha e => hin (e ▸ ha)
              have hco2 : ∀ x ∈ fs1 ++ [k], x < m.rs.length ∧ m.Coe x := by
                intro x hx
                rcases List.mem_append.mp hx with h | h
                · exact hco1 x h
                · rw [List.mem_singleton.mp h]
                  obtain ⟨r', h1, h2⟩ := (hco1 _ hrf).2
                  exact ⟨hkl, r', (Mac.Rch.step (.refl k) hr).trans h1, h2⟩
              have hb := bound _ nd2 hco2
              rw [List.length_append, List.length_singleton] at hb
              have zf : Mp.sizeOk (fs1.length + 1) = true := sizeOk_of (by omega)
              simp only [ea, mVar, mK, mBin, mUn, mTru, mTest, mAnd, mOr, mNot, mAndV, mOrV, mNotV, mIf, mNil, mCons, mTup, mLst, mLstF, mCall, mChain, mIsi, fIsi, tyD, tyP, mSlice, oNo, oSome, mSeq, srcOf, mRange1, mRange2, sNext, sSeq, sIf, sRet, sRetN, sExpr, sSet, sAsg, sAug, sFor, sRaise, gSet, gMore, gNone, Mp.gTup, mMeth, fAppend, mEnum, srcEnum, mDNew, fLen, fInt, truth, ptruth, asB, pp1, pp2, ret1, dIs, isN, allP, frzD, mFrz, List.map_cons, List.map_nil, List.cons_append, List.nil_append, List.length_cons, List.length_nil, List.getElem?_cons_zero, List.getElem?_cons_succ, List.getElem?_nil, List.set_cons_zero, List.set_cons_succ, if_true, ite_true, Nat.reduceAdd, Nat.reduceSub, List.replicate, Bool.false_eq_true, if_false, Bool.not_true, Bool.not_false, mp_ft, mp_tf, isTy, beq_self_eq_true, isi0, isi1, isi2, isi3, isi4, isi5, isi6, isi7, isi8, isi9, isi10, isi11, isi12, isi13, isi14, isi15, isi16, isi17, isi18, isi19, isi20, isi21, isi22, isi23, isi24, isi25, isi26, isi27, isi28, isi29, isi30, isi31, isi32, isi33, isi34, isi35, isi36, isi37, isi38, isi39, isi40, isi41, onlyF, dIx_tup, dIx_lst, dIx_ref, ixAt_0, ixAt_1, ixAt_2, ixAt_3, iEq_int, iNe_int, dAdd, iAdd, iSub, iNeg, iCmp, iLe, iLt, iGe, iGt, dMul, iMulT, iMul, iMod, iDiv, gIx, setIx, decide_true, decide_false, decide_eq_true_eq, Bool.not_eq_true, List.length_map, gets_ok, gets_bind, gets_ite, rsw_ite, rsw_seq, rsw_thn, rsw_nx, rsw_ret, rst_x, rsx_seq, rsx_nx, rsx_ret, rsx_brk, rsx_cont, rsx_ite, rsx_thn, gets_fnM, onlyP, Option.map_some, Src.items, gDk, setDk, keyOf, eK_len, eK_set hin, zf]
              refine ⟨k + 1, fs1 ++ [k], true, _, _, _, rfl, hkl, nd2, hco2, fun x hx => List.mem_append_left _ (hsub x hx), fun _ => ?_, (fun z => nomatch z), rfl, rfl⟩
              rw [List.length_append, List.length_singleton]
              have : fs.length ≤ fs1.length := by
                cases g with
                | true => exact Nat.le_of_lt (hg1 rfl)
                | false => rw [(hg2 rfl).1]; exact Nat.le_refl _
              omega
            · have ea : ((m.row k).ss.map fun s : MSt => (match s with | none => false | some p => decide (p.2 ∈ fs1))).any id = false := by
                rw [List.any_eq_false]
                intro b hb
                obtain ⟨s1, hs1, rfl⟩ := List.mem_map.mp hb
                cases s1 with
                | none => simp
                | some p =>
                  simp only [id, decide_eq_true_eq]
                  exact fun z => hany ⟨p.2, List.mem_filterMap.mpr ⟨_, hs1, rfl⟩, z⟩
              simp only [ea, mVar, mK, mBin, mUn, mTru, mTest, mAnd, mOr, mNot, mAndV, mOrV, mNotV, mIf, mNil, mCons, mTup, mLst, mLstF, mCall, mChain, mIsi, fIsi, tyD, tyP, mSlice, oNo, oSome, mSeq, srcOf, mRange1, mRange2, sNext, sSeq, sIf, sRet, sRetN, sExpr, sSet, sAsg, sAug, sFor, sRaise, gSet, gMore, gNone, Mp.gTup, mMeth, fAppend, mEnum, srcEnum, mDNew, fLen, fInt, truth, ptruth, asB, pp1, pp2, ret1, dIs, isN, allP, frzD, mFrz, List.map_cons, List.map_nil, List.cons_append, List.nil_append, List.length_cons, List.length_nil, List.getElem?_cons_zero, List.getElem?_cons_succ, List.getElem?_nil, List.set_cons_zero, List.set_cons_succ, if_true, ite_true, Nat.reduceAdd, Nat.reduceSub, List.replicate, Bool.false_eq_true, if_false, Bool.not_true, Bool.not_false, mp_ft, mp_tf, isTy, beq_self_eq_true, isi0, isi1, isi2, isi3, isi4, isi5, isi6, isi7, isi8, isi9, isi10, isi11, isi12, isi13, isi14, isi15, isi16, isi17, isi18, isi19, isi20, isi21, isi22, isi23, isi24, isi25, isi26, isi27, isi28, isi29, isi30, isi31, isi32, isi33, isi34, isi35, isi36, isi37, isi38, isi39, isi40, isi41, onlyF, dIx_tup, dIx_lst, dIx_ref, ixAt_0, ixAt_1, ixAt_2, ixAt_3, iEq_int, iNe_int, dAdd, iAdd, iSub, iNeg, iCmp, iLe, iLt, iGe, iGt, dMul, iMulT, iMul, iMod, iDiv, gIx, setIx, decide_true, decide_false, decide_eq_true_eq, Bool.not_eq_true, List.length_map, gets_ok, gets_bind, gets_ite, rsw_ite, rsw_seq, rsw_thn, rsw_nx, rsw_ret, rst_x, rsx_seq, rsx_nx, rsx_ret, rsx_brk, rsx_cont, rsx_ite, rsx_thn, gets_fnM, onlyP, Option.map_some, Src.items]
              refine ⟨k + 1, fs1, g, _, _, _, rfl, hkl, nd1, hco1, hsub, hg1, fun z => ⟨(hg2 z).1, fun q hq hr => ?_⟩, rfl, rfl⟩
              by_cases e : q = k
              · subst e
                rw [(hg2 z).1] at hany
                exact absurd hr hany
              · exact (hg2 z).2 q (by omega) hr
      · rintro e s' ⟨k, fs1, g, e2, e3, e5, hx, hk, nd1, hco1, hsub, hg1, hg2, rfl, rfl⟩
        have hkl : k = m.rs.length := by
          have := congrArg List.length hx
          simp at this
          omega
        subst hkl
        have hb := bound _ nd1 hco1
        refine ⟨_, ?_, fs1, g, e2, e3, e5, nd1, hco1, fun q h1 h2 => hsub q (hfin q h1 h2), fun z => ?_, rfl, rfl, rfl⟩
        · cases g with
          | true => have := hg1 rfl; simp; omega
          | false => rw [(hg2 rfl).1]; simp
        · rw [(hg2 z).1]; exact (hg2 z).2
      · exact ⟨0, fs, false, _, _, _, by simp, Nat.zero_le _, nd, hco, fun x hx => hx, (fun z => nomatch z), fun _ => ⟨rfl, fun q hq => absurd hq (Nat.not_lt_zero q)⟩, rfl, rfl⟩
  · intro x hx
    obtain ⟨h1, h2⟩ := List.mem_filter.mp hx
    refine ⟨List.mem_range.mp h1, x, .refl x, fun z => ?_⟩
    rw [z] at h2
    cases h2
  · intro q h1 h2
    refine List.mem_filter.mpr ⟨List.mem_range.mpr h1, ?_⟩
    cases h : (m.row q).fin with
    | none => exact absurd h h2
    | some _ => rfl

/-! raw_trimmed -/
theorem sc_raw_trimmed : FnScope ["machine", "first", "last", "kept", "state", "numbers", "number", "rows", "end", "steps", "later", "step"] ["machine"] (defScope t_raw_trimmed) := ⟨rfl, rfl, rfl, by decide +kernel, rfl, by decide +kernel, by decide +kernel⟩
theorem bn_raw_trimmed : BindN "raw_trimmed" t_raw_trimmed ["machine"] := fun _ _ _ _ _ _ us hl => match us, hl with | [_], _ => rfl
noncomputable def b_raw_trimmed : MS := (sSeq (sAsg (mTup (mCons (mCall M_reached (mCons (mVar 0) mNil)) (mCons (mCall M_ending (mCons (mVar 0) mNil)) mNil))) (gTup 2 (gMore (gSet 1) (gMore (gSet 2) gNone)))) (sSeq (sSet 3 (mLc (mSeq (mCall fSortedF (mCons (mVar 1) mNil))) [4] (gSet 4) (mTest (mBin dIn (mVar 4) (mVar 2))) (mVar 4) kFrz)) (sSeq (sIf (mTest (mBin dNotIn (mK (.int 0)) (mVar 2))) (sRet (mTup (mCons (mBin dIx (mVar 0) (mK (.int 0))) (mCons (mTup (mCons (mTup (mCons (mK .none) (mCons (mBin dMul (mTup (mCons (mK .none) mNil)) (mBin dIx (mVar 0) (mK (.int 0)))) mNil))) mNil)) mNil)))) sNext) (sSeq (sSet 5 (mDc (mEnum (mVar 3)) [6, 4] (gTup 2 (mgs [6, 4])) mYes (mVar 4) (mVar 6) kFrzD)) (sSeq (sSet 7 (mLst mNil)) (sSeq (sFor (mSeq (mVar 3)) (gSet 4) (sSeq (sAsg (mBin dIx (mBin dIx (mVar 0) (mK (.int 1))) (mVar 4)) (gTup 2 (gMore (gSet 8) (gMore (gSet 9) gNone)))) (sSeq (sSet 10 (mLc (mSeq (mVar 9)) [11] (gSet 11) mYes (mIf (mOr (mTest (mBin (dIs true) (mVar 11) (mK .none))) (mTest (mBin dNotIn (mBin dIx (mVar 11) (mK (.int 1))) (mVar 5)))) (mK .none) (mTup (mCons (mBin dIx (mVar 11) (mK (.int 0))) (mCons (mBin dIxD (mVar 5) (mBin dIx (mVar 11) (mK (.int 1)))) mNil)))) kFrz)) (sExpr (mMeth "list" fAppend (mVar 7) (mCons (mTup (mCons (mVar 8) (mCons (mCall fTuple (mCons (mVar 10) mNil)) mNil))) mNil)))))) (sRet (mTup (mCons (mBin dIx (mVar 0) (mK (.int 0))) (mCons (mCall fTuple (mCons (mVar 7) mNil)) mNil))))))))))
theorem raw_raw_trimmed (N : Nm K mg) : DefOk P w K mg base "raw_trimmed" 2 1 (fnM 1 12 b_raw_trimmed) := def_mk N.d_raw_trimmed sc_raw_trimmed bn_raw_trimmed rfl rfl fun f cdv A outer s H E hr nd tk hp => (ss_cons (s_asg (e_tup (a_cons (e_callS (ok_reached N) hr (by decide) tk (a_cons (e_var (i := 0)) a_nil) (argN_cons argN_nil)) (a_cons (e_callS (ok_ending N) hr (by decide) tk (a_cons (e_var (i := 0)) a_nil) (argN_cons argN_nil)) a_nil))) (g_tup rfl (gs_cons (g_name (i := 1) nd) (gs_cons (g_name (i := 2) nd) gs_nil QuietG.none) (QuietG.more Quiet1.set QuietG.none)))) (ss_cons (s_lcF (i := 3) (own := [("state", 4)]) rfl nd rfl rfl (sw_true rfl rfl rfl (by decide +kernel)) (i_seq (e_sortedF rfl rfl N.f_sorted (a_cons (e_var (i := 1)) a_nil))) (blkOk_by (N := ["machine", "first", "last", "kept", "state", "numbers", "number", "rows", "end", "steps", "later", "step"]) (sc := defScope t_raw_trimmed) (own := [("state", 4)]) (by decide +kernel)) (tg_name (i := 4) (by decide)) (fun _ _ _ _ _ => pg_name (i := 4) nd rfl (by first | exact Or.inl rfl | exact Or.inr rfl)) (fun _ _ _ _ _ => (c_if (t_cmp (o_in (hu65 hr)) (e_var (i := 4)) (e_var (i := 2)) rfl))) (fun _ _ _ _ _ => (e_var (i := 4)))) (ss_cons (s_if (t_cmp (o_notin (hu65 hr)) e_int (e_var (i := 2)) rfl) (ss_one (s_ret (e_tup (a_cons (e_ix (e_var (i := 0)) (e_gint N.i_SIZE)) (a_cons (e_tup (a_cons (e_tup (a_cons e_none (a_cons (e_bin o_mulT (e_tup (a_cons e_none a_nil)) (e_ix (e_var (i := 0)) (e_gint N.i_SIZE))) a_nil))) a_nil)) a_nil))))) ss_nil) (ss_cons (s_set (i := 5) nd (e_dcF (own := [("number", 6), ("state", 4)]) rfl nd (i_enum rfl N.f_enumerate (e_var (i := 3))) (blkOk_by (N := ["machine", "first", "last", "kept", "state", "numbers", "number", "rows", "end", "steps", "later", "step"]) (sc := defScope t_raw_trimmed) (own := [("number", 6), ("state", 4)]) (by decide +kernel)) (tg_tup (is := [6, 4]) (n := 2) (by decide)) (fun _ _ _ _ _ => pg_tup rfl (pgs_cons (pg_name (i := 6) nd rfl (by first | exact Or.inl rfl | exact Or.inr rfl)) (pgs_cons (pg_name (i := 4) nd rfl (by first | exact Or.inl rfl | exact Or.inr rfl)) pgs_nil))) (fun _ _ _ _ _ => c_no) (fun _ _ _ _ _ => (e_var (i := 4))) (fun _ _ _ _ _ => (e_var (i := 6))))) (ss_cons (s_set (i := 7) nd (e_lst a_nil)) (ss_cons (s_for hp rfl (i_seq (e_var (i := 3))) (g_name (i := 4) nd) (ss_cons (s_asg (e_ix (e_ix (e_var (i := 0)) (e_gint N.i_ROWS)) (e_var (i := 4))) (g_tup rfl (gs_cons (g_name (i := 8) nd) (gs_cons (g_name (i := 9) nd) gs_nil QuietG.none) (QuietG.more Quiet1.set QuietG.none)))) (ss_cons (s_lcF (i := 10) (own := [("step", 11)]) rfl nd rfl rfl (sw_true rfl rfl rfl (by decide +kernel)) (i_seq (e_var (i := 9))) (blkOk_by (N := ["machine", "first", "last", "kept", "state", "numbers", "number", "rows", "end", "steps", "later", "step"]) (sc := defScope t_raw_trimmed) (own := [("step", 11)]) (by decide +kernel)) (tg_name (i := 11) (by decide)) (fun _ _ _ _ _ => pg_name (i := 11) nd rfl (by first | exact Or.inl rfl | exact Or.inr rfl)) (fun _ _ _ _ _ => c_no) (fun _ _ _ _ _ => (e_if (t_w (w_or (t_cmp o_is (e_var (i := 11)) e_none (nomark _)) (w_or1 (t_cmp (o_notin (hu65 hr)) (e_ix (e_var (i := 11)) e_int) (e_var (i := 5)) rfl)))) e_none (e_tup (a_cons (e_ix (e_var (i := 11)) e_int) (a_cons (e_ixD (hu1 hr) (e_var (i := 5)) (e_ix (e_var (i := 11)) e_int)) a_nil)))))) (ss_one (s_expr (e_append (e_var (i := 7)) (a_cons (e_tup (a_cons (e_var (i := 8)) (a_cons (e_ty b_tuple rfl N.f_tuple bt_tuple (a_cons (e_var (i := 10)) a_nil)) a_nil))) a_nil))))))) (ss_one (s_ret (e_tup (a_cons (e_ix (e_var (i := 0)) (e_gint N.i_SIZE)) (a_cons (e_ty b_tuple rfl N.f_tuple bt_tuple (a_cons (e_var (i := 7)) a_nil)) a_nil)))))))))))
theorem Mx_raw_trimmed : ∃ f : List D → S → R D, f = pureRun (fnM 1 12 b_raw_trimmed) := ⟨_, rfl⟩
noncomputable def M_raw_trimmed : List D → S → R D := Classical.choose Mx_raw_trimmed
theorem Me_raw_trimmed : M_raw_trimmed = pureRun (fnM 1 12 b_raw_trimmed) := Classical.choose_spec Mx_raw_trimmed
theorem ok_raw_trimmed (N : Nm K mg) : DefOk P w K mg base "raw_trimmed" 2 1 M_raw_trimmed := by rw [Me_raw_trimmed]; exact (raw_raw_trimmed N).alone
theorem raw_trimmed_eq {m : Mac} (hm : m.Ok) {s : S} : M_raw_trimmed [.p (eM m)] s = .ok (.p (eM m.trim)) s := by
  rw [Me_raw_trimmed]; refine pure_eq rfl ?_
  have h30 := hm.r30
  have h0 : 0 < m.rs.length := by have := hm.r1; omega
  have z1 : Mp.sizeOk 1 = true := by decide
  have z2 : Mp.sizeOk 2 = true := by decide
  have z0 : Mp.sizeOk 0 = true := by decide
  obtain ⟨_, ⟨fs, rfl, fnd, fmem⟩, er⟩ := reached_eq hm (s := ⟨[], s.w⟩)
  obtain ⟨_, ⟨ls, rfl, lnd, lmem⟩, el⟩ := ending_eq hm (s := ⟨[], s.w⟩)
  have hperm : fs.Perm ((List.range m.rs.length).filter fun q => decide (q ∈ fs)) := perm_of fnd (List.Pairwise.filter _ List.nodup_range) fun x => by
    rw [List.mem_filter, List.mem_range, decide_eq_true_eq]
    exact ⟨fun h => ⟨((fmem x).mp h).lt hm h0, h⟩, fun h => h.2⟩
  have hf64 : fs.length < 64 := by
    have := nd_len (n := m.rs.length) fnd fun x hx => ((fmem x).mp hx).lt hm h0
    omega
  have e1 : fSortedF [.p (eFs fs)] ⟨[], s.w⟩ = .ok (.p (.list ((((List.range m.rs.length).filter fun q => decide (q ∈ fs)).map fun q : Nat => .int (q : Int))))) ⟨[], s.w⟩ := by
    have := srt_of hperm (List.Pairwise.filter _ List.pairwise_lt_range)
    have e2 : lstP (.p (eFs fs)) (⟨[], s.w⟩ : S) = none := rfl
    simp only [fSortedF, e2, dictV_eFs, keysI_eK, List.length_map, hf64, if_true, this, map_map]
  have hlive : ((List.range m.rs.length).filter fun q => decide (q ∈ fs)).filter (fun q => decide (q ∈ ls)) = m.live := by
    unfold Mac.live
    rw [List.filter_filter]
    refine List.filter_congr fun q hq => ?_
    have hq' := List.mem_range.mp hq
    rw [Bool.eq_iff_iff]
    simp only [Bool.and_eq_true, decide_eq_true_eq, fmem, lmem]
    exact ⟨fun h => ⟨h.2, h.1.2⟩, fun h => ⟨⟨hq', h.2⟩, h.1⟩⟩
  have hsz : Mp.sizeOk ((List.range m.rs.length).filter fun q => decide (q ∈ fs)).length = true := sizeOk_of (by
    have := List.length_filter_le (fun q => decide (q ∈ fs)) (List.range m.rs.length)
    rw [List.length_range] at this
    omega)
  have hll : m.live.length ≤ 30 := by
    have := nd_len (n := m.rs.length) (Mac.live_nd (m := m)) fun x hx => Mac.live_lt hx
    omega
  have hzl : Mp.sizeOk m.live.length = true := sizeOk_of (by omega)
  have i00 : dNotIn (.p (.int 0)) (.p (eFs ls)) ⟨[], s.w⟩ = .ok (.p (.bool (!decide (0 ∈ ls)))) ⟨[], s.w⟩ := notin_eFs (q := 0)
  simp only [b_raw_trimmed, mVar, mK, mBin, mUn, mTru, mTest, mAnd, mOr, mNot, mAndV, mOrV, mNotV, mIf, mNil, mCons, mTup, mLst, mLstF, mCall, mChain, mIsi, fIsi, tyD, tyP, mSlice, oNo, oSome, mSeq, srcOf, mRange1, mRange2, sNext, sSeq, sIf, sRet, sRetN, sExpr, sSet, sAsg, sAug, sFor, sRaise, gSet, gMore, gNone, Mp.gTup, mMeth, fAppend, mEnum, srcEnum, mDNew, fLen, fInt, truth, ptruth, asB, pp1, pp2, ret1, dIs, isN, allP, frzD, mFrz, List.map_cons, List.map_nil, List.cons_append, List.nil_append, List.length_cons, List.length_nil, List.getElem?_cons_zero, List.getElem?_cons_succ, List.getElem?_nil, List.set_cons_zero, List.set_cons_succ, if_true, ite_true, Nat.reduceAdd, Nat.reduceSub, List.replicate, Bool.false_eq_true, if_false, Bool.not_true, Bool.not_false, mp_ft, mp_tf, isTy, beq_self_eq_true, isi0, isi1, isi2, isi3, isi4, isi5, isi6, isi7, isi8, isi9, isi10, isi11, isi12, isi13, isi14, isi15, isi16, isi17, isi18, isi19, isi20, isi21, isi22, isi23, isi24, isi25, isi26, isi27, isi28, isi29, isi30, isi31, isi32, isi33, isi34, isi35, isi36, isi37, isi38, isi39, isi40, isi41, onlyF, dIx_tup, dIx_lst, dIx_ref, ixAt_0, ixAt_1, ixAt_2, ixAt_3, iEq_int, iNe_int, dAdd, iAdd, iSub, iNeg, iCmp, iLe, iLt, iGe, iGt, dMul, iMulT, iMul, iMod, iDiv, gIx, setIx, decide_true, decide_false, decide_eq_true_eq, Bool.not_eq_true, List.length_map, gets_ok, gets_bind, gets_ite, rsw_ite, rsw_seq, rsw_thn, rsw_nx, rsw_ret, rst_x, rsx_seq, rsx_nx, rsx_ret, rsx_brk, rsx_cont, rsx_ite, rsx_thn, gets_fnM, onlyP, Option.map_some, Src.items, er, el, z2, mLc, e1, wipeE, hsz, map_map]
  rw [lc_filter (a := fun q : Nat => D.p (.int (q : Int))) (f := fun q : Nat => D.p (.int (q : Int))) (p := fun q => decide (q ∈ ls)) trivial (fun q _ => by simp only [pureRun, onlyP, fnM, mVar, mK, mBin, mUn, mTru, mTest, mAnd, mOr, mNot, mAndV, mOrV, mNotV, mIf, mNil, mCons, mTup, mLst, mLstF, mCall, mChain, mIsi, fIsi, tyD, tyP, mSlice, oNo, oSome, mSeq, srcOf, mRange1, mRange2, sNext, sSeq, sIf, sRet, sRetN, sExpr, sSet, sAsg, sAug, sFor, sRaise, gSet, gMore, gNone, Mp.gTup, mMeth, fAppend, mEnum, srcEnum, mDNew, fLen, fInt, truth, ptruth, asB, pp1, pp2, ret1, dIs, isN, allP, frzD, mFrz, Mp.R.bind, R.thn, RS.seq, List.map_cons, List.map_nil, List.cons_append, List.nil_append, List.length_cons, List.length_nil, List.getElem?_cons_zero, List.getElem?_cons_succ, List.getElem?_nil, List.set_cons_zero, List.set_cons_succ, if_true, ite_true, Nat.reduceAdd, Nat.reduceSub, List.replicate, Bool.false_eq_true, if_false, Bool.not_true, Bool.not_false, mp_ft, mp_tf, isTy, beq_self_eq_true, isi0, isi1, isi2, isi3, isi4, isi5, isi6, isi7, isi8, isi9, isi10, isi11, isi12, isi13, isi14, isi15, isi16, isi17, isi18, isi19, isi20, isi21, isi22, isi23, isi24, isi25, isi26, isi27, isi28, isi29, isi30, isi31, isi32, isi33, isi34, isi35, isi36, isi37, isi38, isi39, isi40, isi41, onlyF, dIx_tup, dIx_lst, dIx_ref, ixAt_0, ixAt_1, ixAt_2, ixAt_3, iEq_int, iNe_int, dAdd, iAdd, iSub, iNeg, iCmp, iLe, iLt, iGe, iGt, dMul, iMulT, iMul, iMod, iDiv, gIx, setIx, decide_true, decide_false, decide_eq_true_eq, Bool.not_eq_true, List.length_map, in_eFs]) (fun q _ _ => by simp only [pureRun, onlyP, fnM, mVar, mK, mBin, mUn, mTru, mTest, mAnd, mOr, mNot, mAndV, mOrV, mNotV, mIf, mNil, mCons, mTup, mLst, mLstF, mCall, mChain, mIsi, fIsi, tyD, tyP, mSlice, oNo, oSome, mSeq, srcOf, mRange1, mRange2, sNext, sSeq, sIf, sRet, sRetN, sExpr, sSet, sAsg, sAug, sFor, sRaise, gSet, gMore, gNone, Mp.gTup, mMeth, fAppend, mEnum, srcEnum, mDNew, fLen, fInt, truth, ptruth, asB, pp1, pp2, ret1, dIs, isN, allP, frzD, mFrz, Mp.R.bind, R.thn, RS.seq, List.map_cons, List.map_nil, List.cons_append, List.nil_append, List.length_cons, List.length_nil, List.getElem?_cons_zero, List.getElem?_cons_succ, List.getElem?_nil, List.set_cons_zero, List.set_cons_succ, if_true, ite_true, Nat.reduceAdd, Nat.reduceSub, List.replicate, Bool.false_eq_true, if_false, Bool.not_true, Bool.not_false, mp_ft, mp_tf, isTy, beq_self_eq_true, isi0, isi1, isi2, isi3, isi4, isi5, isi6, isi7, isi8, isi9, isi10, isi11, isi12, isi13, isi14, isi15, isi16, isi17, isi18, isi19, isi20, isi21, isi22, isi23, isi24, isi25, isi26, isi27, isi28, isi29, isi30, isi31, isi32, isi33, isi34, isi35, isi36, isi37, isi38, isi39, isi40, isi41, onlyF, dIx_tup, dIx_lst, dIx_ref, ixAt_0, ixAt_1, ixAt_2, ixAt_3, iEq_int, iNe_int, dAdd, iAdd, iSub, iNeg, iCmp, iLe, iLt, iGe, iGt, dMul, iMulT, iMul, iMod, iDiv, gIx, setIx, decide_true, decide_false, decide_eq_true_eq, Bool.not_eq_true, List.length_map])]
  rw [hlive]
  simp only [mVar, mK, mBin, mUn, mTru, mTest, mAnd, mOr, mNot, mAndV, mOrV, mNotV, mIf, mNil, mCons, mTup, mLst, mLstF, mCall, mChain, mIsi, fIsi, tyD, tyP, mSlice, oNo, oSome, mSeq, srcOf, mRange1, mRange2, sNext, sSeq, sIf, sRet, sRetN, sExpr, sSet, sAsg, sAug, sFor, sRaise, gSet, gMore, gNone, Mp.gTup, mMeth, fAppend, mEnum, srcEnum, mDNew, fLen, fInt, truth, ptruth, asB, pp1, pp2, ret1, dIs, isN, allP, frzD, mFrz, List.map_cons, List.map_nil, List.cons_append, List.nil_append, List.length_cons, List.length_nil, List.getElem?_cons_zero, List.getElem?_cons_succ, List.getElem?_nil, List.set_cons_zero, List.set_cons_succ, if_true, ite_true, Nat.reduceAdd, Nat.reduceSub, List.replicate, Bool.false_eq_true, if_false, Bool.not_true, Bool.not_false, mp_ft, mp_tf, isTy, beq_self_eq_true, isi0, isi1, isi2, isi3, isi4, isi5, isi6, isi7, isi8, isi9, isi10, isi11, isi12, isi13, isi14, isi15, isi16, isi17, isi18, isi19, isi20, isi21, isi22, isi23, isi24, isi25, isi26, isi27, isi28, isi29, isi30, isi31, isi32, isi33, isi34, isi35, isi36, isi37, isi38, isi39, isi40, isi41, onlyF, dIx_tup, dIx_lst, dIx_ref, ixAt_0, ixAt_1, ixAt_2, ixAt_3, iEq_int, iNe_int, dAdd, iAdd, iSub, iNeg, iCmp, iLe, iLt, iGe, iGt, dMul, iMulT, iMul, iMod, iDiv, gIx, setIx, decide_true, decide_false, decide_eq_true_eq, Bool.not_eq_true, List.length_map, gets_ok, gets_bind, gets_ite, rsw_ite, rsw_seq, rsw_thn, rsw_nx, rsw_ret, rst_x, rsx_seq, rsx_nx, rsx_ret, rsx_brk, rsx_cont, rsx_ite, rsx_thn, gets_fnM, onlyP, Option.map_some, Src.items, kFrz, allP_map]
  by_cases hz : 0 ∈ ls
  · have hz' : 0 ∈ m.live := (Mac.live_mem hm).mpr ⟨.refl 0, ((lmem 0).mp hz).2⟩
    simp only [i00, hz, mVar, mK, mBin, mUn, mTru, mTest, mAnd, mOr, mNot, mAndV, mOrV, mNotV, mIf, mNil, mCons, mTup, mLst, mLstF, mCall, mChain, mIsi, fIsi, tyD, tyP, mSlice, oNo, oSome, mSeq, srcOf, mRange1, mRange2, sNext, sSeq, sIf, sRet, sRetN, sExpr, sSet, sAsg, sAug, sFor, sRaise, gSet, gMore, gNone, Mp.gTup, mMeth, fAppend, mEnum, srcEnum, mDNew, fLen, fInt, truth, ptruth, asB, pp1, pp2, ret1, dIs, isN, allP, frzD, mFrz, List.map_cons, List.map_nil, List.cons_append, List.nil_append, List.length_cons, List.length_nil, List.getElem?_cons_zero, List.getElem?_cons_succ, List.getElem?_nil, List.set_cons_zero, List.set_cons_succ, if_true, ite_true, Nat.reduceAdd, Nat.reduceSub, List.replicate, Bool.false_eq_true, if_false, Bool.not_true, Bool.not_false, mp_ft, mp_tf, isTy, beq_self_eq_true, isi0, isi1, isi2, isi3, isi4, isi5, isi6, isi7, isi8, isi9, isi10, isi11, isi12, isi13, isi14, isi15, isi16, isi17, isi18, isi19, isi20, isi21, isi22, isi23, isi24, isi25, isi26, isi27, isi28, isi29, isi30, isi31, isi32, isi33, isi34, isi35, isi36, isi37, isi38, isi39, isi40, isi41, onlyF, dIx_tup, dIx_lst, dIx_ref, ixAt_0, ixAt_1, ixAt_2, ixAt_3, iEq_int, iNe_int, dAdd, iAdd, iSub, iNeg, iCmp, iLe, iLt, iGe, iGt, dMul, iMulT, iMul, iMod, iDiv, gIx, setIx, decide_true, decide_false, decide_eq_true_eq, Bool.not_eq_true, List.length_map, gets_ok, gets_bind, gets_ite, rsw_ite, rsw_seq, rsw_thn, rsw_nx, rsw_ret, rst_x, rsx_seq, rsx_nx, rsx_ret, rsx_brk, rsx_cont, rsx_ite, rsx_thn, gets_fnM, onlyP, Option.map_some, Src.items, mDc, enum_idx, hzl, wipeE, List.length_range]
    rw [dc_gen (ev := fun i : Nat => [some (D.p (eM m)), some (.p (eFs fs)), some (.p (eFs ls)), some (.p (.list (m.live.map fun q : Nat => .int (q : Int)))), some (.p (.int ((m.live[i]?.getD 0 : Nat) : Int))), none, some (.p (.int (i : Int))), none, none, none, none, none]) (kp := fun i : Nat => .int ((m.live[i]?.getD 0 : Nat) : Int)) (ke := fun i : Nat => .inl ((m.live[i]?.getD 0 : Nat) : Int)) (f := fun i : Nat => .p (.int (i : Int))) (p := fun _ => true) trivial (fun _ => rfl)]
    rotate_left
    · exact fun q hq => rfl
    · exact fun q hq => rfl
    · exact fun q hq _ => rfl
    · exact fun q hq _ => rfl
    · exact fun q hq _ => by simp
    · have ef : (List.range m.live.length).filter (fun _ => true) = List.range m.live.length := by simp
      rw [ef]
      have e2 : (List.range m.live.length).map (fun i : Nat => (Sum.inl ((m.live[i]?.getD 0 : Nat) : Int) : L2.Key)) = m.live.map fun q : Nat => (Sum.inl (q : Int) : L2.Key) := by
        apply List.ext_getElem?
        intro i
        rw [List.getElem?_map, List.getElem?_map]
        by_cases hi : i < m.live.length
        · simp [hi]
        · simp [hi]
      rw [e2]
      refine List.Pairwise.map _ (fun a b h => ?_) Mac.live_nd
      simpa using fun e : (a : Int) = b => h (Int.ofNat_inj.mp e)
    have ef : (List.range m.live.length).filter (fun _ => true) = List.range m.live.length := by simp
    rw [ef, num_map, List.nil_append, frz_num]
    simp only [mVar, mK, mBin, mUn, mTru, mTest, mAnd, mOr, mNot, mAndV, mOrV, mNotV, mIf, mNil, mCons, mTup, mLst, mLstF, mCall, mChain, mIsi, fIsi, tyD, tyP, mSlice, oNo, oSome, mSeq, srcOf, mRange1, mRange2, sNext, sSeq, sIf, sRet, sRetN, sExpr, sSet, sAsg, sAug, sFor, sRaise, gSet, gMore, gNone, Mp.gTup, mMeth, fAppend, mEnum, srcEnum, mDNew, fLen, fInt, truth, ptruth, asB, pp1, pp2, ret1, dIs, isN, allP, frzD, mFrz, List.map_cons, List.map_nil, List.cons_append, List.nil_append, List.length_cons, List.length_nil, List.getElem?_cons_zero, List.getElem?_cons_succ, List.getElem?_nil, List.set_cons_zero, List.set_cons_succ, if_true, ite_true, Nat.reduceAdd, Nat.reduceSub, List.replicate, Bool.false_eq_true, if_false, Bool.not_true, Bool.not_false, mp_ft, mp_tf, isTy, beq_self_eq_true, isi0, isi1, isi2, isi3, isi4, isi5, isi6, isi7, isi8, isi9, isi10, isi11, isi12, isi13, isi14, isi15, isi16, isi17, isi18, isi19, isi20, isi21, isi22, isi23, isi24, isi25, isi26, isi27, isi28, isi29, isi30, isi31, isi32, isi33, isi34, isi35, isi36, isi37, isi38, isi39, isi40, isi41, onlyF, dIx_tup, dIx_lst, dIx_ref, ixAt_0, ixAt_1, ixAt_2, ixAt_3, iEq_int, iNe_int, dAdd, iAdd, iSub, iNeg, iCmp, iLe, iLt, iGe, iGt, dMul, iMulT, iMul, iMod, iDiv, gIx, setIx, decide_true, decide_false, decide_eq_true_eq, Bool.not_eq_true, List.length_map, gets_ok, gets_bind, gets_ite, rsw_ite, rsw_seq, rsw_thn, rsw_nx, rsw_ret, rst_x, rsx_seq, rsx_nx, rsx_ret, rsx_brk, rsx_cont, rsx_ite, rsx_thn, gets_fnM, onlyP, Option.map_some, Src.items, newLst, z0]
    refine for_gets (J := fun xs e s' => ∃ (r1 r2 : List Nat) (e4 e8 e9 e10 : Option D), xs = r1.map (fun q : Nat => D.p (.int (q : Int))) ∧ r2 ++ r1 = m.live ∧ s' = ⟨[some (.lst (r2.map fun q => D.p (eR ((m.row q).keep m.live))))], s.w⟩ ∧
      e = [some (.p (eM m)), some (.p (eFs fs)), some (.p (eFs ls)), some (.p (.list (m.live.map fun q : Nat => .int (q : Int)))), e4, some (.p (eNum m.live)), none, some (.ref 0), e8, e9, e10, none]) (fun _ _ _ _ => trivial) ?_ ?_ _ _ _ ?_
    · rintro x xs e s' ⟨r1, r2, e4, e8, e9, e10, hx, hr, rfl, rfl⟩
      cases r1 with
      | nil => cases hx
      | cons q r1 =>
        cases hx
        have hmem : q ∈ m.live := by rw [← hr]; simp
        have hq := Mac.live_lt hmem
        have hrow := hm.row hq
        have h8 := hm.n8
        have zr : Mp.sizeOk (m.row q).ss.length = true := sizeOk_of (by rw [hrow.len]; omega)
        have zr2 : Mp.sizeOk (r2.length + 1) = true := sizeOk_of (by
          have := congrArg List.length hr
          simp at this
          omega)
        simp only [mVar, mK, mBin, mUn, mTru, mTest, mAnd, mOr, mNot, mAndV, mOrV, mNotV, mIf, mNil, mCons, mTup, mLst, mLstF, mCall, mChain, mIsi, fIsi, tyD, tyP, mSlice, oNo, oSome, mSeq, srcOf, mRange1, mRange2, sNext, sSeq, sIf, sRet, sRetN, sExpr, sSet, sAsg, sAug, sFor, sRaise, gSet, gMore, gNone, Mp.gTup, mMeth, fAppend, mEnum, srcEnum, mDNew, fLen, fInt, truth, ptruth, asB, pp1, pp2, ret1, dIs, isN, allP, frzD, mFrz, List.map_cons, List.map_nil, List.cons_append, List.nil_append, List.length_cons, List.length_nil, List.getElem?_cons_zero, List.getElem?_cons_succ, List.getElem?_nil, List.set_cons_zero, List.set_cons_succ, if_true, ite_true, Nat.reduceAdd, Nat.reduceSub, List.replicate, Bool.false_eq_true, if_false, Bool.not_true, Bool.not_false, mp_ft, mp_tf, isTy, beq_self_eq_true, isi0, isi1, isi2, isi3, isi4, isi5, isi6, isi7, isi8, isi9, isi10, isi11, isi12, isi13, isi14, isi15, isi16, isi17, isi18, isi19, isi20, isi21, isi22, isi23, isi24, isi25, isi26, isi27, isi28, isi29, isi30, isi31, isi32, isi33, isi34, isi35, isi36, isi37, isi38, isi39, isi40, isi41, onlyF, dIx_tup, dIx_lst, dIx_ref, ixAt_0, ixAt_1, ixAt_2, ixAt_3, iEq_int, iNe_int, dAdd, iAdd, iSub, iNeg, iCmp, iLe, iLt, iGe, iGt, dMul, iMulT, iMul, iMod, iDiv, gIx, setIx, decide_true, decide_false, decide_eq_true_eq, Bool.not_eq_true, List.length_map, gets_ok, gets_bind, gets_ite, rsw_ite, rsw_seq, rsw_thn, rsw_nx, rsw_ret, rst_x, rsx_seq, rsx_nx, rsx_ret, rsx_brk, rsx_cont, rsx_ite, rsx_thn, gets_fnM, onlyP, Option.map_some, Src.items, ix_M1, ix_rs hq]
        simp only [eR, mVar, mK, mBin, mUn, mTru, mTest, mAnd, mOr, mNot, mAndV, mOrV, mNotV, mIf, mNil, mCons, mTup, mLst, mLstF, mCall, mChain, mIsi, fIsi, tyD, tyP, mSlice, oNo, oSome, mSeq, srcOf, mRange1, mRange2, sNext, sSeq, sIf, sRet, sRetN, sExpr, sSet, sAsg, sAug, sFor, sRaise, gSet, gMore, gNone, Mp.gTup, mMeth, fAppend, mEnum, srcEnum, mDNew, fLen, fInt, truth, ptruth, asB, pp1, pp2, ret1, dIs, isN, allP, frzD, mFrz, List.map_cons, List.map_nil, List.cons_append, List.nil_append, List.length_cons, List.length_nil, List.getElem?_cons_zero, List.getElem?_cons_succ, List.getElem?_nil, List.set_cons_zero, List.set_cons_succ, if_true, ite_true, Nat.reduceAdd, Nat.reduceSub, List.replicate, Bool.false_eq_true, if_false, Bool.not_true, Bool.not_false, mp_ft, mp_tf, isTy, beq_self_eq_true, isi0, isi1, isi2, isi3, isi4, isi5, isi6, isi7, isi8, isi9, isi10, isi11, isi12, isi13, isi14, isi15, isi16, isi17, isi18, isi19, isi20, isi21, isi22, isi23, isi24, isi25, isi26, isi27, isi28, isi29, isi30, isi31, isi32, isi33, isi34, isi35, isi36, isi37, isi38, isi39, isi40, isi41, onlyF, dIx_tup, dIx_lst, dIx_ref, ixAt_0, ixAt_1, ixAt_2, ixAt_3, iEq_int, iNe_int, dAdd, iAdd, iSub, iNeg, iCmp, iLe, iLt, iGe, iGt, dMul, iMulT, iMul, iMod, iDiv, gIx, setIx, decide_true, decide_false, decide_eq_true_eq, Bool.not_eq_true, List.length_map, gets_ok, gets_bind, gets_ite, rsw_ite, rsw_seq, rsw_thn, rsw_nx, rsw_ret, rst_x, rsx_seq, rsx_nx, rsx_ret, rsx_brk, rsx_cont, rsx_ite, rsx_thn, gets_fnM, onlyP, Option.map_some, Src.items, mLc, wipeE, zr, map_map]
        rw [lc_map (f := fun st => D.p (eS (MSt.keep m.live st))) trivial]
        rotate_left
        · intro st hs
          cases st with
          | none => simp only [eS, pureRun, onlyP, fnM, mVar, mK, mBin, mUn, mTru, mTest, mAnd, mOr, mNot, mAndV, mOrV, mNotV, mIf, mNil, mCons, mTup, mLst, mLstF, mCall, mChain, mIsi, fIsi, tyD, tyP, mSlice, oNo, oSome, mSeq, srcOf, mRange1, mRange2, sNext, sSeq, sIf, sRet, sRetN, sExpr, sSet, sAsg, sAug, sFor, sRaise, gSet, gMore, gNone, Mp.gTup, mMeth, fAppend, mEnum, srcEnum, mDNew, fLen, fInt, truth, ptruth, asB, pp1, pp2, ret1, dIs, isN, allP, frzD, mFrz, Mp.R.bind, R.thn, RS.seq, List.map_cons, List.map_nil, List.cons_append, List.nil_append, List.length_cons, List.length_nil, List.getElem?_cons_zero, List.getElem?_cons_succ, List.getElem?_nil, List.set_cons_zero, List.set_cons_succ, if_true, ite_true, Nat.reduceAdd, Nat.reduceSub, List.replicate, Bool.false_eq_true, if_false, Bool.not_true, Bool.not_false, mp_ft, mp_tf, isTy, beq_self_eq_true, isi0, isi1, isi2, isi3, isi4, isi5, isi6, isi7, isi8, isi9, isi10, isi11, isi12, isi13, isi14, isi15, isi16, isi17, isi18, isi19, isi20, isi21, isi22, isi23, isi24, isi25, isi26, isi27, isi28, isi29, isi30, isi31, isi32, isi33, isi34, isi35, isi36, isi37, isi38, isi39, isi40, isi41, onlyF, dIx_tup, dIx_lst, dIx_ref, ixAt_0, ixAt_1, ixAt_2, ixAt_3, iEq_int, iNe_int, dAdd, iAdd, iSub, iNeg, iCmp, iLe, iLt, iGe, iGt, dMul, iMulT, iMul, iMod, iDiv, gIx, setIx, decide_true, decide_false, decide_eq_true_eq, Bool.not_eq_true, List.length_map, MSt.keep, Option.bind_none]
          | some p =>
            simp only [eS, pureRun, onlyP, fnM, mVar, mK, mBin, mUn, mTru, mTest, mAnd, mOr, mNot, mAndV, mOrV, mNotV, mIf, mNil, mCons, mTup, mLst, mLstF, mCall, mChain, mIsi, fIsi, tyD, tyP, mSlice, oNo, oSome, mSeq, srcOf, mRange1, mRange2, sNext, sSeq, sIf, sRet, sRetN, sExpr, sSet, sAsg, sAug, sFor, sRaise, gSet, gMore, gNone, Mp.gTup, mMeth, fAppend, mEnum, srcEnum, mDNew, fLen, fInt, truth, ptruth, asB, pp1, pp2, ret1, dIs, isN, allP, frzD, mFrz, Mp.R.bind, R.thn, RS.seq, List.map_cons, List.map_nil, List.cons_append, List.nil_append, List.length_cons, List.length_nil, List.getElem?_cons_zero, List.getElem?_cons_succ, List.getElem?_nil, List.set_cons_zero, List.set_cons_succ, if_true, ite_true, Nat.reduceAdd, Nat.reduceSub, List.replicate, Bool.false_eq_true, if_false, Bool.not_true, Bool.not_false, mp_ft, mp_tf, isTy, beq_self_eq_true, isi0, isi1, isi2, isi3, isi4, isi5, isi6, isi7, isi8, isi9, isi10, isi11, isi12, isi13, isi14, isi15, isi16, isi17, isi18, isi19, isi20, isi21, isi22, isi23, isi24, isi25, isi26, isi27, isi28, isi29, isi30, isi31, isi32, isi33, isi34, isi35, isi36, isi37, isi38, isi39, isi40, isi41, onlyF, dIx_tup, dIx_lst, dIx_ref, ixAt_0, ixAt_1, ixAt_2, ixAt_3, iEq_int, iNe_int, dAdd, iAdd, iSub, iNeg, iCmp, iLe, iLt, iGe, iGt, dMul, iMulT, iMul, iMod, iDiv, gIx, setIx, decide_true, decide_false, decide_eq_true_eq, Bool.not_eq_true, List.length_map, notin_num Mac.live_nd]
            by_cases hp : p.2 ∈ m.live
            · simp only [hp, pureRun, onlyP, fnM, mVar, mK, mBin, mUn, mTru, mTest, mAnd, mOr, mNot, mAndV, mOrV, mNotV, mIf, mNil, mCons, mTup, mLst, mLstF, mCall, mChain, mIsi, fIsi, tyD, tyP, mSlice, oNo, oSome, mSeq, srcOf, mRange1, mRange2, sNext, sSeq, sIf, sRet, sRetN, sExpr, sSet, sAsg, sAug, sFor, sRaise, gSet, gMore, gNone, Mp.gTup, mMeth, fAppend, mEnum, srcEnum, mDNew, fLen, fInt, truth, ptruth, asB, pp1, pp2, ret1, dIs, isN, allP, frzD, mFrz, Mp.R.bind, R.thn, RS.seq, List.map_cons, List.map_nil, List.cons_append, List.nil_append, List.length_cons, List.length_nil, List.getElem?_cons_zero, List.getElem?_cons_succ, List.getElem?_nil, List.set_cons_zero, List.set_cons_succ, if_true, ite_true, Nat.reduceAdd, Nat.reduceSub, List.replicate, Bool.false_eq_true, if_false, Bool.not_true, Bool.not_false, mp_ft, mp_tf, isTy, beq_self_eq_true, isi0, isi1, isi2, isi3, isi4, isi5, isi6, isi7, isi8, isi9, isi10, isi11, isi12, isi13, isi14, isi15, isi16, isi17, isi18, isi19, isi20, isi21, isi22, isi23, isi24, isi25, isi26, isi27, isi28, isi29, isi30, isi31, isi32, isi33, isi34, isi35, isi36, isi37, isi38, isi39, isi40, isi41, onlyF, dIx_tup, dIx_lst, dIx_ref, ixAt_0, ixAt_1, ixAt_2, ixAt_3, iEq_int, iNe_int, dAdd, iAdd, iSub, iNeg, iCmp, iLe, iLt, iGe, iGt, dMul, iMulT, iMul, iMod, iDiv, gIx, setIx, decide_true, decide_false, decide_eq_true_eq, Bool.not_eq_true, List.length_map, ix_num Mac.live_nd hp, z2, MSt.keep, Option.bind_some, eS, Option.map_some]
            · simp only [hp, pureRun, onlyP, fnM, mVar, mK, mBin, mUn, mTru, mTest, mAnd, mOr, mNot, mAndV, mOrV, mNotV, mIf, mNil, mCons, mTup, mLst, mLstF, mCall, mChain, mIsi, fIsi, tyD, tyP, mSlice, oNo, oSome, mSeq, srcOf, mRange1, mRange2, sNext, sSeq, sIf, sRet, sRetN, sExpr, sSet, sAsg, sAug, sFor, sRaise, gSet, gMore, gNone, Mp.gTup, mMeth, fAppend, mEnum, srcEnum, mDNew, fLen, fInt, truth, ptruth, asB, pp1, pp2, ret1, dIs, isN, allP, frzD, mFrz, Mp.R.bind, R.thn, RS.seq, List.map_cons, List.map_nil, List.cons_append, List.nil_append, List.length_cons, List.length_nil, List.getElem?_cons_zero, List.getElem?_cons_succ, List.getElem?_nil, List.set_cons_zero, List.set_cons_succ, if_true, ite_true, Nat.reduceAdd, Nat.reduceSub, List.replicate, Bool.false_eq_true, if_false, Bool.not_true, Bool.not_false, mp_ft, mp_tf, isTy, beq_self_eq_true, isi0, isi1, isi2, isi3, isi4, isi5, isi6, isi7, isi8, isi9, isi10, isi11, isi12, isi13, isi14, isi15, isi16, isi17, isi18, isi19, isi20, isi21, isi22, isi23, isi24, isi25, isi26, isi27, isi28, isi29, isi30, isi31, isi32, isi33, isi34, isi35, isi36, isi37, isi38, isi39, isi40, isi41, onlyF, dIx_tup, dIx_lst, dIx_ref, ixAt_0, ixAt_1, ixAt_2, ixAt_3, iEq_int, iNe_int, dAdd, iAdd, iSub, iNeg, iCmp, iLe, iLt, iGe, iGt, dMul, iMulT, iMul, iMod, iDiv, gIx, setIx, decide_true, decide_false, decide_eq_true_eq, Bool.not_eq_true, List.length_map, MSt.keep, Option.bind_some, eS]
        simp only [mVar, mK, mBin, mUn, mTru, mTest, mAnd, mOr, mNot, mAndV, mOrV, mNotV, mIf, mNil, mCons, mTup, mLst, mLstF, mCall, mChain, mIsi, fIsi, tyD, tyP, mSlice, oNo, oSome, mSeq, srcOf, mRange1, mRange2, sNext, sSeq, sIf, sRet, sRetN, sExpr, sSet, sAsg, sAug, sFor, sRaise, gSet, gMore, gNone, Mp.gTup, mMeth, fAppend, mEnum, srcEnum, mDNew, fLen, fInt, truth, ptruth, asB, pp1, pp2, ret1, dIs, isN, allP, frzD, mFrz, List.map_cons, List.map_nil, List.cons_append, List.nil_append, List.length_cons, List.length_nil, List.getElem?_cons_zero, List.getElem?_cons_succ, List.getElem?_nil, List.set_cons_zero, List.set_cons_succ, if_true, ite_true, Nat.reduceAdd, Nat.reduceSub, List.replicate, Bool.false_eq_true, if_false, Bool.not_true, Bool.not_false, mp_ft, mp_tf, isTy, beq_self_eq_true, isi0, isi1, isi2, isi3, isi4, isi5, isi6, isi7, isi8, isi9, isi10, isi11, isi12, isi13, isi14, isi15, isi16, isi17, isi18, isi19, isi20, isi21, isi22, isi23, isi24, isi25, isi26, isi27, isi28, isi29, isi30, isi31, isi32, isi33, isi34, isi35, isi36, isi37, isi38, isi39, isi40, isi41, onlyF, dIx_tup, dIx_lst, dIx_ref, ixAt_0, ixAt_1, ixAt_2, ixAt_3, iEq_int, iNe_int, dAdd, iAdd, iSub, iNeg, iCmp, iLe, iLt, iGe, iGt, dMul, iMulT, iMul, iMod, iDiv, gIx, setIx, decide_true, decide_false, decide_eq_true_eq, Bool.not_eq_true, List.length_map, gets_ok, gets_bind, gets_ite, rsw_ite, rsw_seq, rsw_thn, rsw_nx, rsw_ret, rst_x, rsx_seq, rsx_nx, rsx_ret, rsx_brk, rsx_cont, rsx_ite, rsx_thn, gets_fnM, onlyP, Option.map_some, Src.items, kFrz, allP_map, fTuple, lstP, z2, zr2]
        exact ⟨r1, r2 ++ [q], _, _, _, _, rfl, by simpa using hr, by simp [eR, MRow.keep, Function.comp_def], rfl⟩
    · rintro e s' ⟨r1, r2, e4, e8, e9, e10, hx, hr, rfl, rfl⟩
      cases r1 with
      | cons c t1 => cases hx
      | nil =>
        rw [List.append_nil] at hr
        rw [hr]
        simp only [mVar, mK, mBin, mUn, mTru, mTest, mAnd, mOr, mNot, mAndV, mOrV, mNotV, mIf, mNil, mCons, mTup, mLst, mLstF, mCall, mChain, mIsi, fIsi, tyD, tyP, mSlice, oNo, oSome, mSeq, srcOf, mRange1, mRange2, sNext, sSeq, sIf, sRet, sRetN, sExpr, sSet, sAsg, sAug, sFor, sRaise, gSet, gMore, gNone, Mp.gTup, mMeth, fAppend, mEnum, srcEnum, mDNew, fLen, fInt, truth, ptruth, asB, pp1, pp2, ret1, dIs, isN, allP, frzD, mFrz, List.map_cons, List.map_nil, List.cons_append, List.nil_append, List.length_cons, List.length_nil, List.getElem?_cons_zero, List.getElem?_cons_succ, List.getElem?_nil, List.set_cons_zero, List.set_cons_succ, if_true, ite_true, Nat.reduceAdd, Nat.reduceSub, List.replicate, Bool.false_eq_true, if_false, Bool.not_true, Bool.not_false, mp_ft, mp_tf, isTy, beq_self_eq_true, isi0, isi1, isi2, isi3, isi4, isi5, isi6, isi7, isi8, isi9, isi10, isi11, isi12, isi13, isi14, isi15, isi16, isi17, isi18, isi19, isi20, isi21, isi22, isi23, isi24, isi25, isi26, isi27, isi28, isi29, isi30, isi31, isi32, isi33, isi34, isi35, isi36, isi37, isi38, isi39, isi40, isi41, onlyF, dIx_tup, dIx_lst, dIx_ref, ixAt_0, ixAt_1, ixAt_2, ixAt_3, iEq_int, iNe_int, dAdd, iAdd, iSub, iNeg, iCmp, iLe, iLt, iGe, iGt, dMul, iMulT, iMul, iMod, iDiv, gIx, setIx, decide_true, decide_false, decide_eq_true_eq, Bool.not_eq_true, List.length_map, gets_ok, gets_bind, gets_ite, rsw_ite, rsw_seq, rsw_thn, rsw_nx, rsw_ret, rst_x, rsx_seq, rsx_nx, rsx_ret, rsx_brk, rsx_cont, rsx_ite, rsx_thn, gets_fnM, onlyP, Option.map_some, Src.items, fTuple, lstP, allP_map, z2, ix_M0]
        have ht : m.trim = ⟨m.n, m.live.map fun q => (m.row q).keep m.live⟩ := by
          unfold Mac.trim
          rw [if_pos hz']
        simp [ht, eM, Function.comp_def]
    · exact ⟨m.live, [], none, none, none, none, map_map, rfl, rfl, rfl⟩
  · have hz' : 0 ∉ m.live := fun h => hz ((lmem 0).mpr ⟨h0, ((Mac.live_mem hm).mp h).2⟩)
    have h1 := hm.n1
    have h8 := hm.n8
    simp only [i00, hz, mVar, mK, mBin, mUn, mTru, mTest, mAnd, mOr, mNot, mAndV, mOrV, mNotV, mIf, mNil, mCons, mTup, mLst, mLstF, mCall, mChain, mIsi, fIsi, tyD, tyP, mSlice, oNo, oSome, mSeq, srcOf, mRange1, mRange2, sNext, sSeq, sIf, sRet, sRetN, sExpr, sSet, sAsg, sAug, sFor, sRaise, gSet, gMore, gNone, Mp.gTup, mMeth, fAppend, mEnum, srcEnum, mDNew, fLen, fInt, truth, ptruth, asB, pp1, pp2, ret1, dIs, isN, allP, frzD, mFrz, List.map_cons, List.map_nil, List.cons_append, List.nil_append, List.length_cons, List.length_nil, List.getElem?_cons_zero, List.getElem?_cons_succ, List.getElem?_nil, List.set_cons_zero, List.set_cons_succ, if_true, ite_true, Nat.reduceAdd, Nat.reduceSub, List.replicate, Bool.false_eq_true, if_false, Bool.not_true, Bool.not_false, mp_ft, mp_tf, isTy, beq_self_eq_true, isi0, isi1, isi2, isi3, isi4, isi5, isi6, isi7, isi8, isi9, isi10, isi11, isi12, isi13, isi14, isi15, isi16, isi17, isi18, isi19, isi20, isi21, isi22, isi23, isi24, isi25, isi26, isi27, isi28, isi29, isi30, isi31, isi32, isi33, isi34, isi35, isi36, isi37, isi38, isi39, isi40, isi41, onlyF, dIx_tup, dIx_lst, dIx_ref, ixAt_0, ixAt_1, ixAt_2, ixAt_3, iEq_int, iNe_int, dAdd, iAdd, iSub, iNeg, iCmp, iLe, iLt, iGe, iGt, dMul, iMulT, iMul, iMod, iDiv, gIx, setIx, decide_true, decide_false, decide_eq_true_eq, Bool.not_eq_true, List.length_map, gets_ok, gets_bind, gets_ite, rsw_ite, rsw_seq, rsw_thn, rsw_nx, rsw_ret, rst_x, rsx_seq, rsx_nx, rsx_ret, rsx_brk, rsx_cont, rsx_ite, rsx_thn, gets_fnM, onlyP, Option.map_some, Src.items, ix_M0, z1, z2, Int.toNat_natCast, rep_none, Nat.reduceLeDiff, and_true, List.length_cons, List.length_nil]
    simp only [mul_none h1 h8, mVar, mK, mBin, mUn, mTru, mTest, mAnd, mOr, mNot, mAndV, mOrV, mNotV, mIf, mNil, mCons, mTup, mLst, mLstF, mCall, mChain, mIsi, fIsi, tyD, tyP, mSlice, oNo, oSome, mSeq, srcOf, mRange1, mRange2, sNext, sSeq, sIf, sRet, sRetN, sExpr, sSet, sAsg, sAug, sFor, sRaise, gSet, gMore, gNone, Mp.gTup, mMeth, fAppend, mEnum, srcEnum, mDNew, fLen, fInt, truth, ptruth, asB, pp1, pp2, ret1, dIs, isN, allP, frzD, mFrz, List.map_cons, List.map_nil, List.cons_append, List.nil_append, List.length_cons, List.length_nil, List.getElem?_cons_zero, List.getElem?_cons_succ, List.getElem?_nil, List.set_cons_zero, List.set_cons_succ, if_true, ite_true, Nat.reduceAdd, Nat.reduceSub, List.replicate, Bool.false_eq_true, if_false, Bool.not_true, Bool.not_false, mp_ft, mp_tf, isTy, beq_self_eq_true, isi0, isi1, isi2, isi3, isi4, isi5, isi6, isi7, isi8, isi9, isi10, isi11, isi12, isi13, isi14, isi15, isi16, isi17, isi18, isi19, isi20, isi21, isi22, isi23, isi24, isi25, isi26, isi27, isi28, isi29, isi30, isi31, isi32, isi33, isi34, isi35, isi36, isi37, isi38, isi39, isi40, isi41, onlyF, dIx_tup, dIx_lst, dIx_ref, ixAt_0, ixAt_1, ixAt_2, ixAt_3, iEq_int, iNe_int, dAdd, iAdd, iSub, iNeg, iCmp, iLe, iLt, iGe, iGt, dMul, iMulT, iMul, iMod, iDiv, gIx, setIx, decide_true, decide_false, decide_eq_true_eq, Bool.not_eq_true, List.length_map, gets_ok, gets_bind, gets_ite, rsw_ite, rsw_seq, rsw_thn, rsw_nx, rsw_ret, rst_x, rsx_seq, rsx_nx, rsx_ret, rsx_brk, rsx_cont, rsx_ite, rsx_thn, gets_fnM, onlyP, Option.map_some, Src.items, z1, z2]
    have ht : m.trim = ⟨m.n, [⟨none, List.replicate m.n none⟩]⟩ := by
      unfold Mac.trim
      rw [if_neg hz']
    simp [ht, eM, eR, eO, eS]

/-! trimmed -/
theorem sc_trimmed : FnScope ["machine"] ["machine"] (defScope t_trimmed) := ⟨rfl, rfl, rfl, by decide +kernel, rfl, by decide +kernel, by decide +kernel⟩
theorem bn_trimmed : BindN "trimmed" t_trimmed ["machine"] := fun _ _ _ _ _ _ us hl => match us, hl with | [_], _ => rfl
noncomputable def b_trimmed : MS := (sSeq (sExpr (mCall M_check_machine (mCons (mVar 0) mNil))) (sRet (mCall M_raw_trimmed (mCons (mVar 0) mNil))))
theorem raw_trimmed (N : Nm K mg) : DefOk P w K mg base "trimmed" 8 1 (fnM 1 1 b_trimmed) := def_mk N.d_trimmed sc_trimmed bn_trimmed rfl rfl fun f cdv A outer s H E hr nd tk hp => (ss_cons (s_expr (e_callS (ok_check_machine N) hr (by decide) tk (a_cons (e_var (i := 0)) a_nil) (argN_cons argN_nil))) (ss_one (s_ret (e_callS (ok_raw_trimmed N) hr (by decide) tk (a_cons (e_var (i := 0)) a_nil) (argN_cons argN_nil)))))
noncomputable def M_trimmed : List D → S → R D := pureRun (fnM 1 1 b_trimmed)
theorem ok_trimmed (N : Nm K mg) : DefOk P w K mg base "trimmed" 8 1 M_trimmed := (raw_trimmed N).alone
theorem trimmed_eq {m : Mac} (hm : m.Ok) {s : S} : M_trimmed [.p (eM m)] s = .ok (.p (eM m.trim)) s := by
  refine pure_eq rfl ?_
  simp [b_trimmed, mVar, mK, mBin, mUn, mTru, mTest, mAnd, mOr, mNot, mAndV, mOrV, mNotV, mIf, mNil, mCons, mTup, mLst, mLstF, mCall, mChain, mIsi, fIsi, tyD, tyP, mSlice, oNo, oSome, mSeq, srcOf, mRange1, mRange2, sNext, sSeq, sIf, sRet, sRetN, sExpr, sSet, sAsg, sAug, sFor, sRaise, gSet, gMore, gNone, Mp.gTup, mMeth, fAppend, mEnum, srcEnum, mDNew, fLen, fInt, truth, ptruth, asB, pp1, pp2, ret1, dIs, isN, allP, frzD, mFrz, List.map_cons, List.map_nil, List.cons_append, List.nil_append, List.length_cons, List.length_nil, List.getElem?_cons_zero, List.getElem?_cons_succ, List.getElem?_nil, List.set_cons_zero, List.set_cons_succ, if_true, ite_true, Nat.reduceAdd, Nat.reduceSub, List.replicate, Bool.false_eq_true, if_false, Bool.not_true, Bool.not_false, mp_ft, mp_tf, isTy, beq_self_eq_true, isi0, isi1, isi2, isi3, isi4, isi5, isi6, isi7, isi8, isi9, isi10, isi11, isi12, isi13, isi14, isi15, isi16, isi17, isi18, isi19, isi20, isi21, isi22, isi23, isi24, isi25, isi26, isi27, isi28, isi29, isi30, isi31, isi32, isi33, isi34, isi35, isi36, isi37, isi38, isi39, isi40, isi41, onlyF, dIx_tup, dIx_lst, dIx_ref, ixAt_0, ixAt_1, ixAt_2, ixAt_3, iEq_int, iNe_int, dAdd, iAdd, iSub, iNeg, iCmp, iLe, iLt, iGe, iGt, dMul, iMulT, iMul, iMod, iDiv, gIx, setIx, decide_true, decide_false, decide_eq_true_eq, Bool.not_eq_true, List.length_map, gets_ok, gets_bind, gets_ite, rsw_ite, rsw_seq, rsw_thn, rsw_nx, rsw_ret, rst_x, rsx_seq, rsx_nx, rsx_ret, rsx_brk, rsx_cont, rsx_ite, rsx_thn, gets_fnM, onlyP, Option.map_some, Src.items, M_check_machine, isMachine_eM hm, raw_trimmed_eq hm]
theorem trimmed_no {x : PyData} (h : isMachine x = false) {s : S} : M_trimmed [.p x] s = .ex "NoMachine" [] s := by
  simp [M_trimmed, b_trimmed, pureRun, onlyP, fnM, mVar, mK, mBin, mUn, mTru, mTest, mAnd, mOr, mNot, mAndV, mOrV, mNotV, mIf, mNil, mCons, mTup, mLst, mLstF, mCall, mChain, mIsi, fIsi, tyD, tyP, mSlice, oNo, oSome, mSeq, srcOf, mRange1, mRange2, sNext, sSeq, sIf, sRet, sRetN, sExpr, sSet, sAsg, sAug, sFor, sRaise, gSet, gMore, gNone, Mp.gTup, mMeth, fAppend, mEnum, srcEnum, mDNew, fLen, fInt, truth, ptruth, asB, pp1, pp2, ret1, dIs, isN, allP, frzD, mFrz, Mp.R.bind, R.thn, RS.seq, List.map_cons, List.map_nil, List.cons_append, List.nil_append, List.length_cons, List.length_nil, List.getElem?_cons_zero, List.getElem?_cons_succ, List.getElem?_nil, List.set_cons_zero, List.set_cons_succ, if_true, ite_true, Nat.reduceAdd, Nat.reduceSub, List.replicate, Bool.false_eq_true, if_false, Bool.not_true, Bool.not_false, mp_ft, mp_tf, isTy, beq_self_eq_true, isi0, isi1, isi2, isi3, isi4, isi5, isi6, isi7, isi8, isi9, isi10, isi11, isi12, isi13, isi14, isi15, isi16, isi17, isi18, isi19, isi20, isi21, isi22, isi23, isi24, isi25, isi26, isi27, isi28, isi29, isi30, isi31, isi32, isi33, isi34, isi35, isi36, isi37, isi38, isi39, isi40, isi41, onlyF, dIx_tup, dIx_lst, dIx_ref, ixAt_0, ixAt_1, ixAt_2, ixAt_3, iEq_int, iNe_int, dAdd, iAdd, iSub, iNeg, iCmp, iLe, iLt, iGe, iGt, dMul, iMulT, iMul, iMod, iDiv, gIx, setIx, decide_true, decide_false, decide_eq_true_eq, Bool.not_eq_true, List.length_map, M_check_machine, h]

/-! _law_mixed -/
theorem sc__law_mixed : FnScope ["_law_number"] ["_law_number"] (defScope t__law_mixed) := ⟨rfl, rfl, rfl, by decide +kernel, rfl, by decide +kernel, by decide +kernel⟩
theorem bn__law_mixed : BindN "_law_mixed" t__law_mixed ["_law_number"] := fun _ _ _ _ _ _ us hl => match us, hl with | [_], _ => rfl
noncomputable def b__law_mixed : MS := (sSeq (sSet 0 (mBin (pp2 iMod) (mCall fInt (mCons (mBin dAdd (mBin dMul (mVar 0) (mK (.int 48271))) (mK (.int 11))) mNil)) (mK (.int 2147483647)))) (sSeq (sSet 0 (mBin (pp2 iMod) (mCall fInt (mCons (mBin dAdd (mBin dMul (mVar 0) (mBin dAdd (mBin (pp2 iDiv) (mVar 0) (mK (.int 1009))) (mK (.int 69621)))) (mK (.int 7919))) mNil)) (mK (.int 2147483647)))) (sRet (mBin dAdd (mBin dMul (mVar 0) (mK (.int 2147483399))) (mBin (pp2 iMod) (mCall fInt (mCons (mBin dAdd (mBin dMul (mVar 0) (mBin dAdd (mBin (pp2 iDiv) (mVar 0) (mK (.int 2003))) (mK (.int 40692)))) (mK (.int 104729))) mNil)) (mK (.int 2147483399)))))))
theorem raw__law_mixed (N : Nm K mg) : DefOk P w K mg base "_law_mixed" 1 1 (fnM 1 1 b__law_mixed) := def_mk N.d__law_mixed sc__law_mixed bn__law_mixed rfl rfl fun f cdv A outer s H E hr nd tk hp => (ss_cons (s_set (i := 0) nd (e_bin o_mod (e_ty b_int rfl N.f_int bt_int (a_cons (e_bin o_add (e_bin o_mulT (e_var (i := 0)) e_int) e_int) a_nil)) e_int)) (ss_cons (s_set (i := 0) nd (e_bin o_mod (e_ty b_int rfl N.f_int bt_int (a_cons (e_bin o_add (e_bin o_mulT (e_var (i := 0)) (e_bin o_add (e_bin o_div (e_var (i := 0)) e_int) e_int)) e_int) a_nil)) e_int)) (ss_one (s_ret (e_bin o_add (e_bin o_mulT (e_var (i := 0)) e_int) (e_bin o_mod (e_ty b_int rfl N.f_int bt_int (a_cons (e_bin o_add (e_bin o_mulT (e_var (i := 0)) (e_bin o_add (e_bin o_div (e_var (i := 0)) e_int) e_int)) e_int) a_nil)) e_int))))))
def mixA (n : Int) : Int := (n * 48271 + 11) % 2147483647
def mixB (n : Int) : Int := (mixA n * (mixA n / 1009 + 69621) + 7919) % 2147483647
def mixI (n : Int) : Int := mixB n * 2147483399 + (mixB n * (mixB n / 2003 + 40692) + 104729) % 2147483399
theorem mixA_b (n : Int) : 0 ≤ mixA n ∧ mixA n < 2147483647 := by unfold mixA; omega
theorem mixB_b (n : Int) : 0 ≤ mixB n ∧ mixB n < 2147483647 := by unfold mixB; omega
def M__law_mixed : List D → S → R D := fun ds s => match ds with
  | [.p (.int n)] => .ok (.p (.int (mixI n))) s
  | _ => .bad
theorem ok__law_mixed (N : Nm K mg) : DefOk P w K mg base "_law_mixed" 1 1 M__law_mixed := (raw__law_mixed N).alone.eqv fun ds s => by
  unfold M__law_mixed
  split
  · rename_i n
    left
    have h1 := mixA_b n
    have h2 := mixB_b n
    have e1 : mulOk n 48271 = true := mul_nl (by omega)
    have e2 : mulOk (mixA n) (mixA n / 1009 + 69621) = true := mul_nn (by omega)
    have e3 : mulOk (mixB n) 2147483399 = true := mul_nn (by omega)
    have e4 : mulOk (mixB n) (mixB n / 2003 + 40692) = true := mul_nn (by omega)
    have d1 : divOk 1009 = true := div_ok (by omega)
    have d2 : divOk 2003 = true := div_ok (by omega)
    have p1 : (0:Int) < 2147483647 := by omega
    have p2 : (0:Int) < 2147483399 := by omega
    have f1 : (n * 48271 + 11) % 2147483647 = mixA n := rfl
    have f2 : (mixA n * (mixA n / 1009 + 69621) + 7919) % 2147483647 = mixB n := rfl
    simp only [b__law_mixed, pureRun, onlyP, fnM, mVar, mK, mBin, mUn, mTru, mTest, mAnd, mOr, mNot, mAndV, mOrV, mNotV, mIf, mNil, mCons, mTup, mLst, mLstF, mCall, mChain, mIsi, fIsi, tyD, tyP, mSlice, oNo, oSome, mSeq, srcOf, mRange1, mRange2, sNext, sSeq, sIf, sRet, sRetN, sExpr, sSet, sAsg, sAug, sFor, sRaise, gSet, gMore, gNone, Mp.gTup, mMeth, fAppend, mEnum, srcEnum, mDNew, fLen, fInt, truth, ptruth, asB, pp1, pp2, ret1, dIs, isN, allP, frzD, mFrz, Mp.R.bind, R.thn, RS.seq, List.map_cons, List.map_nil, List.cons_append, List.nil_append, List.length_cons, List.length_nil, List.getElem?_cons_zero, List.getElem?_cons_succ, List.getElem?_nil, List.set_cons_zero, List.set_cons_succ, if_true, ite_true, Nat.reduceAdd, Nat.reduceSub, List.replicate, Bool.false_eq_true, if_false, Bool.not_true, Bool.not_false, dAdd, dMul, iMulT, iMul, iAdd, iMod, iDiv, e1, e2, e3, e4, d1, d2, p1, p2, f1, f2, mixI]
  · exact .inr rfl

/-! _law_well -/
theorem sc__law_well : FnScope ["_law_script", "_law_cell"] ["_law_script"] (defScope t__law_well) := ⟨rfl, rfl, rfl, by decide +kernel, rfl, by decide +kernel, by decide +kernel⟩
theorem bn__law_well : BindN "_law_well" t__law_well ["_law_script"] := fun _ _ _ _ _ _ us hl => match us, hl with | [_], _ => rfl
noncomputable def b__law_well : MS := (sRet (mLst (mCons (mLc (mSeq (mSlice (mVar 0) oNo (oSome (mK (.int 63))))) [1] (gSet 1) mYes (mCall fInt (mCons (mVar 1) mNil)) kFrz) (mCons (mK (.int 0)) (mCons (mK (.int 0)) (mCons (mK (.int 1)) mNil))))))
theorem raw__law_well (N : Nm K mg) : DefOk P w K mg base "_law_well" 1 1 (fnM 1 2 b__law_well) := def_mk N.d__law_well sc__law_well bn__law_well rfl rfl fun f cdv A outer s H E hr nd tk hp => (ss_one (s_ret (e_lst (a_cons (e_lcF (own := [("_law_cell", 1)]) rfl nd (i_seq (e_slice (e_var (i := 0)) p_no (p_some e_int))) (blkOk_by (N := ["_law_script", "_law_cell"]) (sc := defScope t__law_well) (own := [("_law_cell", 1)]) (by decide +kernel)) (tg_name (i := 1) (by decide)) (fun _ _ _ _ _ => pg_name (i := 1) nd rfl (by first | exact Or.inl rfl | exact Or.inr rfl)) (fun _ _ _ _ _ => c_no) (fun _ _ _ _ _ => (e_ty b_int rfl N.f_int bt_int (a_cons (e_var (i := 1)) a_nil)))) (a_cons e_int (a_cons e_int (a_cons e_int a_nil)))))))
noncomputable def M__law_well : List D → S → R D := wellRun (fnM 1 2 b__law_well)
theorem ok__law_well (N : Nm K mg) : DefOk P w K mg base "_law_well" 1 1 M__law_well := (raw__law_well N).well
theorem well (ns : List Int) (hl : ns.length ≤ 63) : ∃ w', WA w' ∧ M__law_well [.p (.list (ns.map .int))] ⟨[], []⟩ = .ok (.well 0) ⟨[], w'⟩ := by
  have e : fnM 1 2 b__law_well [.p (.list (ns.map .int))] ⟨[], []⟩ = .ok (.ref 0) ⟨[some (.lst [.p (.list ((cutL ns none (some 63)).map .int)), .p (.int 0), .p (.int 0), .p (.int 1)])], []⟩ := by
    have hc : sizeOk (cutL ns none (some 63)).length = true := sizeOk_of (by
      have := (cutL_sub (xs := ns) (lo := none) (hi := some 63))
      omega)
    have e0 : ∀ w : GH, lcL (Src.fix ((cutL ns none (some 63)).map fun i => D.p (.int i))).ok (gSet 1) mYes (mCall fInt (mCons (mVar 1) mNil)) [some (.p (.list (ns.map .int))), none] ((cutL ns none (some 63)).map fun i => D.p (.int i)) ⟨[], w⟩ = .ok ((cutL ns none (some 63)).map fun i => D.p (.int i)) ⟨[], w⟩ := fun w => lc_map trivial fun x _ => by simp [pureRun, onlyP, fnM, mVar, mK, mBin, mUn, mTru, mTest, mAnd, mOr, mNot, mAndV, mOrV, mNotV, mIf, mNil, mCons, mTup, mLst, mLstF, mCall, mChain, mIsi, fIsi, tyD, tyP, mSlice, oNo, oSome, mSeq, srcOf, mRange1, mRange2, sNext, sSeq, sIf, sRet, sRetN, sExpr, sSet, sAsg, sAug, sFor, sRaise, gSet, gMore, gNone, Mp.gTup, mMeth, fAppend, mEnum, srcEnum, mDNew, fLen, fInt, truth, ptruth, asB, pp1, pp2, ret1, dIs, isN, allP, frzD, mFrz, Mp.R.bind, R.thn, RS.seq, List.map_cons, List.map_nil, List.cons_append, List.nil_append, List.length_cons, List.length_nil, List.getElem?_cons_zero, List.getElem?_cons_succ, List.getElem?_nil, List.set_cons_zero, List.set_cons_succ, if_true, ite_true, Nat.reduceAdd, Nat.reduceSub, List.replicate, Bool.false_eq_true, if_false, Bool.not_true, Bool.not_false]
    have z4 : sizeOk 4 = true := by decide
    simp [b__law_well, pureRun, onlyP, fnM, mVar, mK, mBin, mUn, mTru, mTest, mAnd, mOr, mNot, mAndV, mOrV, mNotV, mIf, mNil, mCons, mTup, mLst, mLstF, mCall, mChain, mIsi, fIsi, tyD, tyP, mSlice, oNo, oSome, mSeq, srcOf, mRange1, mRange2, sNext, sSeq, sIf, sRet, sRetN, sExpr, sSet, sAsg, sAug, sFor, sRaise, gSet, gMore, gNone, Mp.gTup, mMeth, fAppend, mEnum, srcEnum, mDNew, fLen, fInt, truth, ptruth, asB, pp1, pp2, ret1, dIs, isN, allP, frzD, mFrz, Mp.R.bind, R.thn, RS.seq, List.map_cons, List.map_nil, List.cons_append, List.nil_append, List.length_cons, List.length_nil, List.getElem?_cons_zero, List.getElem?_cons_succ, List.getElem?_nil, List.set_cons_zero, List.set_cons_succ, if_true, ite_true, Nat.reduceAdd, Nat.reduceSub, List.replicate, Bool.false_eq_true, if_false, Bool.not_true, Bool.not_false, mLc, fSlice, wipeE, hc, Src.items, cutL_map, map_map, e0, kFrz, newLst, z4, -List.map_map]
  refine ⟨_, ⟨cutL ns none (some 63), 0, 0, 1, by omega, rfl⟩, ?_⟩
  unfold M__law_well wellRun
  simp only [onlyD, if_true, e]

/-! _law_filled -/
theorem sc__law_filled : FnScope ["_law_well_here", "_law_cell"] ["_law_well_here"] (defScope t__law_filled) := ⟨rfl, rfl, rfl, by decide +kernel, rfl, by decide +kernel, by decide +kernel⟩
theorem bn__law_filled : BindN "_law_filled" t__law_filled ["_law_well_here"] := fun _ _ _ _ _ _ us hl => match us, hl with | [_], _ => rfl
noncomputable def b__law_filled : MS := (sSeq (sAsg (mBin dAdd (mBin dIx (mVar 0) (mK (.int 1))) (mK (.int 1))) (gIx (mVar 0) (mK (.int 1)))) (sSeq (sIf (mTest (mBin (pp2 iLe) (mBin dIx (mVar 0) (mK (.int 1))) (mCall fLen (mCons (mBin dIx (mVar 0) (mK (.int 0))) mNil)))) (sSeq (sSet 1 (mBin dIx (mBin dIx (mVar 0) (mK (.int 0))) (mBin (pp2 iSub) (mBin dIx (mVar 0) (mK (.int 1))) (mK (.int 1))))) (sSeq (sAsg (mBin (pp2 iMod) (mCall fInt (mCons (mBin dAdd (mBin dAdd (mBin dMul (mBin dIx (mVar 0) (mK (.int 3))) (mK (.int 69069))) (mVar 1)) (mK (.int 1))) mNil)) (mK (.int 2147483629))) (gIx (mVar 0) (mK (.int 3)))) (sSeq (sIf (mTest (mBin (pp2 iGe) (mVar 1) (mBin (pp2 iPow) (mK (.int 10)) (mK (.int 18))))) (sRet (mVar 1)) sNext) (sRet (mCall M__law_mixed (mCons (mBin dAdd (mVar 1) (mBin dMul (mK (.int 7919)) (mBin dIx (mVar 0) (mK (.int 1))))) mNil)))))) sNext) (sRet (mCall M__law_mixed (mCons (mBin dAdd (mBin dIx (mVar 0) (mK (.int 3))) (mBin dMul (mK (.int 7919)) (mBin dIx (mVar 0) (mK (.int 1))))) mNil)))))
theorem raw__law_filled (N : Nm K mg) : DefOk P w K mg base "_law_filled" 2 1 (fnM 1 2 b__law_filled) := def_mk N.d__law_filled sc__law_filled bn__law_filled rfl rfl fun f cdv A outer s H E hr nd tk hp => (ss_cons (s_asg (e_bin o_add (e_ix (e_var (i := 0)) e_int) e_int) (g_ix (e_var (i := 0)) e_int)) (ss_cons (s_if (t_cmp o_leP (e_ix (e_var (i := 0)) e_int) (e_bi b_len rfl N.f_len bt_len (a_cons (e_ix (e_var (i := 0)) e_int) a_nil)) (nomark _)) (ss_cons (s_set (i := 1) nd (e_ix (e_ix (e_var (i := 0)) e_int) (e_bin o_sub (e_ix (e_var (i := 0)) e_int) e_int))) (ss_cons (s_asg (e_bin o_mod (e_ty b_int rfl N.f_int bt_int (a_cons (e_bin o_add (e_bin o_add (e_bin o_mulT (e_ix (e_var (i := 0)) e_int) e_int) (e_var (i := 1))) e_int) a_nil)) e_int) (g_ix (e_var (i := 0)) e_int)) (ss_cons (s_if (t_cmp o_geP (e_var (i := 1)) (e_bin o_pow e_int e_int) (nomark _)) (ss_one (s_ret (e_var (i := 1)))) ss_nil) (ss_one (s_ret (e_callS (ok__law_mixed N) hr (by decide) tk (a_cons (e_bin o_add (e_var (i := 1)) (e_bin o_mulT e_int (e_ix (e_var (i := 0)) e_int))) a_nil) (argN_cons argN_nil))))))) ss_nil) (ss_one (s_ret (e_callS (ok__law_mixed N) hr (by decide) tk (a_cons (e_bin o_add (e_ix (e_var (i := 0)) e_int) (e_bin o_mulT e_int (e_ix (e_var (i := 0)) e_int))) a_nil) (argN_cons argN_nil))))))
noncomputable def M__law_filled : List D → S → R D := fnM 1 2 b__law_filled
theorem ok__law_filled (N : Nm K mg) : DefOk P w K mg base "_law_filled" 2 1 M__law_filled := raw__law_filled N
def wellL (ns : List Int) (a b c : Int) : GH := [some (.lst [.p (.list (ns.map .int)), .p (.int a), .p (.int b), .p (.int c)])]
theorem filled (ns : List Int) (a b c : Int) (ha : 0 ≤ a) : ∃ v a' c', 0 ≤ a' ∧ M__law_filled [.ref 0] ⟨wellL ns a b c, []⟩ = .ok (.p (.int v)) ⟨wellL ns a' b c', []⟩ := by
  have e1 : ∀ c : Int, mulOk c 69069 = true := fun c => mul_nl (by omega)
  have e2 : ∀ c : Int, mulOk 7919 c = true := fun c => mul_nn (by omega)
  have p1 : powOk 10 18 = true := pow_ok (by decide)
  have p2 : (0:Int) < 2147483629 := by omega
  have i1 : ∀ b c : Int, ∀ x : D, ixAt [x, .p (.int b), .p (.int c)] 0 = some x := fun _ _ _ => rfl
  unfold M__law_filled wellL
  by_cases h : a + 1 ≤ (ns.length : Int)
  · have hn : a.toNat < ns.length := by omega
    have ec : ixAt (ns.map PyData.int) (a + 1 - 1) = some (.int (ns[a.toNat])) := by
      have : a + 1 - 1 = (a.toNat : Int) := by omega
      rw [this, ixAt_nat (by simpa using hn)]
      simp
    by_cases h18 : (1000000000000000000:Int) ≤ ns[a.toNat]
    · refine ⟨ns[a.toNat], a + 1, (c * 69069 + ns[a.toNat] + 1) % 2147483629, by omega, ?_⟩
      simp [b__law_filled, pureRun, onlyP, fnM, mVar, mK, mBin, mUn, mTru, mTest, mAnd, mOr, mNot, mAndV, mOrV, mNotV, mIf, mNil, mCons, mTup, mLst, mLstF, mCall, mChain, mIsi, fIsi, tyD, tyP, mSlice, oNo, oSome, mSeq, srcOf, mRange1, mRange2, sNext, sSeq, sIf, sRet, sRetN, sExpr, sSet, sAsg, sAug, sFor, sRaise, gSet, gMore, gNone, Mp.gTup, mMeth, fAppend, mEnum, srcEnum, mDNew, fLen, fInt, truth, ptruth, asB, pp1, pp2, ret1, dIs, isN, allP, frzD, mFrz, Mp.R.bind, R.thn, RS.seq, List.map_cons, List.map_nil, List.cons_append, List.nil_append, List.length_cons, List.length_nil, List.getElem?_cons_zero, List.getElem?_cons_succ, List.getElem?_nil, List.set_cons_zero, List.set_cons_succ, if_true, ite_true, Nat.reduceAdd, Nat.reduceSub, List.replicate, Bool.false_eq_true, if_false, Bool.not_true, Bool.not_false, dIx, ixAt, ixN, atI, dAdd, iAdd, gIx, setIx, iLe, iGe, iCmp, iPow, p1, iMod, dMul, iMulT, iMul, e1, e2, p2, h, iSub]
      simp [ixAt, ixN] at ec
      simp [pureRun, onlyP, fnM, mVar, mK, mBin, mUn, mTru, mTest, mAnd, mOr, mNot, mAndV, mOrV, mNotV, mIf, mNil, mCons, mTup, mLst, mLstF, mCall, mChain, mIsi, fIsi, tyD, tyP, mSlice, oNo, oSome, mSeq, srcOf, mRange1, mRange2, sNext, sSeq, sIf, sRet, sRetN, sExpr, sSet, sAsg, sAug, sFor, sRaise, gSet, gMore, gNone, Mp.gTup, mMeth, fAppend, mEnum, srcEnum, mDNew, fLen, fInt, truth, ptruth, asB, pp1, pp2, ret1, dIs, isN, allP, frzD, mFrz, Mp.R.bind, R.thn, RS.seq, List.map_cons, List.map_nil, List.cons_append, List.nil_append, List.length_cons, List.length_nil, List.getElem?_cons_zero, List.getElem?_cons_succ, List.getElem?_nil, List.set_cons_zero, List.set_cons_succ, if_true, ite_true, Nat.reduceAdd, Nat.reduceSub, List.replicate, Bool.false_eq_true, if_false, Bool.not_true, Bool.not_false, mp_ft, mp_tf, isTy, beq_self_eq_true, isi0, isi1, isi2, isi3, isi4, isi5, isi6, isi7, isi8, isi9, isi10, isi11, isi12, isi13, isi14, isi15, isi16, isi17, isi18, isi19, isi20, isi21, isi22, isi23, isi24, isi25, isi26, isi27, isi28, isi29, isi30, isi31, isi32, isi33, isi34, isi35, isi36, isi37, isi38, isi39, isi40, isi41, onlyF, dIx_tup, dIx_lst, dIx_ref, ixAt_0, ixAt_1, ixAt_2, ixAt_3, iEq_int, iNe_int, dAdd, iAdd, iSub, iNeg, iCmp, iLe, iLt, iGe, iGt, dMul, iMulT, iMul, iMod, iDiv, gIx, setIx, decide_true, decide_false, decide_eq_true_eq, Bool.not_eq_true, List.length_map, ixAt, ixN, ec, h18, e1, e2, p1, p2, iPow]
    · refine ⟨mixI (ns[a.toNat] + 7919 * (a + 1)), a + 1, (c * 69069 + ns[a.toNat] + 1) % 2147483629, by omega, ?_⟩
      simp [b__law_filled, pureRun, onlyP, fnM, mVar, mK, mBin, mUn, mTru, mTest, mAnd, mOr, mNot, mAndV, mOrV, mNotV, mIf, mNil, mCons, mTup, mLst, mLstF, mCall, mChain, mIsi, fIsi, tyD, tyP, mSlice, oNo, oSome, mSeq, srcOf, mRange1, mRange2, sNext, sSeq, sIf, sRet, sRetN, sExpr, sSet, sAsg, sAug, sFor, sRaise, gSet, gMore, gNone, Mp.gTup, mMeth, fAppend, mEnum, srcEnum, mDNew, fLen, fInt, truth, ptruth, asB, pp1, pp2, ret1, dIs, isN, allP, frzD, mFrz, Mp.R.bind, R.thn, RS.seq, List.map_cons, List.map_nil, List.cons_append, List.nil_append, List.length_cons, List.length_nil, List.getElem?_cons_zero, List.getElem?_cons_succ, List.getElem?_nil, List.set_cons_zero, List.set_cons_succ, if_true, ite_true, Nat.reduceAdd, Nat.reduceSub, List.replicate, Bool.false_eq_true, if_false, Bool.not_true, Bool.not_false, dIx, ixAt, ixN, atI, dAdd, iAdd, gIx, setIx, iLe, iGe, iCmp, iPow, p1, iMod, dMul, iMulT, iMul, e1, e2, p2, h, iSub]
      simp [ixAt, ixN] at ec
      simp [pureRun, onlyP, fnM, mVar, mK, mBin, mUn, mTru, mTest, mAnd, mOr, mNot, mAndV, mOrV, mNotV, mIf, mNil, mCons, mTup, mLst, mLstF, mCall, mChain, mIsi, fIsi, tyD, tyP, mSlice, oNo, oSome, mSeq, srcOf, mRange1, mRange2, sNext, sSeq, sIf, sRet, sRetN, sExpr, sSet, sAsg, sAug, sFor, sRaise, gSet, gMore, gNone, Mp.gTup, mMeth, fAppend, mEnum, srcEnum, mDNew, fLen, fInt, truth, ptruth, asB, pp1, pp2, ret1, dIs, isN, allP, frzD, mFrz, Mp.R.bind, R.thn, RS.seq, List.map_cons, List.map_nil, List.cons_append, List.nil_append, List.length_cons, List.length_nil, List.getElem?_cons_zero, List.getElem?_cons_succ, List.getElem?_nil, List.set_cons_zero, List.set_cons_succ, if_true, ite_true, Nat.reduceAdd, Nat.reduceSub, List.replicate, Bool.false_eq_true, if_false, Bool.not_true, Bool.not_false, mp_ft, mp_tf, isTy, beq_self_eq_true, isi0, isi1, isi2, isi3, isi4, isi5, isi6, isi7, isi8, isi9, isi10, isi11, isi12, isi13, isi14, isi15, isi16, isi17, isi18, isi19, isi20, isi21, isi22, isi23, isi24, isi25, isi26, isi27, isi28, isi29, isi30, isi31, isi32, isi33, isi34, isi35, isi36, isi37, isi38, isi39, isi40, isi41, onlyF, dIx_tup, dIx_lst, dIx_ref, ixAt_0, ixAt_1, ixAt_2, ixAt_3, iEq_int, iNe_int, dAdd, iAdd, iSub, iNeg, iCmp, iLe, iLt, iGe, iGt, dMul, iMulT, iMul, iMod, iDiv, gIx, setIx, decide_true, decide_false, decide_eq_true_eq, Bool.not_eq_true, List.length_map, ixAt, ixN, ec, h18, e1, e2, p1, p2, iPow, M__law_mixed]
  · refine ⟨mixI (c + 7919 * (a + 1)), a + 1, c, by omega, ?_⟩
    simp [b__law_filled, pureRun, onlyP, fnM, mVar, mK, mBin, mUn, mTru, mTest, mAnd, mOr, mNot, mAndV, mOrV, mNotV, mIf, mNil, mCons, mTup, mLst, mLstF, mCall, mChain, mIsi, fIsi, tyD, tyP, mSlice, oNo, oSome, mSeq, srcOf, mRange1, mRange2, sNext, sSeq, sIf, sRet, sRetN, sExpr, sSet, sAsg, sAug, sFor, sRaise, gSet, gMore, gNone, Mp.gTup, mMeth, fAppend, mEnum, srcEnum, mDNew, fLen, fInt, truth, ptruth, asB, pp1, pp2, ret1, dIs, isN, allP, frzD, mFrz, Mp.R.bind, R.thn, RS.seq, List.map_cons, List.map_nil, List.cons_append, List.nil_append, List.length_cons, List.length_nil, List.getElem?_cons_zero, List.getElem?_cons_succ, List.getElem?_nil, List.set_cons_zero, List.set_cons_succ, if_true, ite_true, Nat.reduceAdd, Nat.reduceSub, List.replicate, Bool.false_eq_true, if_false, Bool.not_true, Bool.not_false, dIx, ixAt, ixN, atI, dAdd, iAdd, gIx, setIx, iLe, iCmp, dMul, iMulT, iMul, e1, e2, h, M__law_mixed]

/-! _law_draw -/
theorem sc__law_draw : FnScope ["_law_well_here", "_law_many", "_law_told"] ["_law_well_here", "_law_many"] (defScope t__law_draw) := ⟨rfl, rfl, rfl, by decide +kernel, rfl, by decide +kernel, by decide +kernel⟩
theorem bn__law_draw : BindN "_law_draw" t__law_draw ["_law_well_here", "_law_many"] := fun _ _ _ _ _ _ us hl => match us, hl with | [_, _], _ => rfl
noncomputable def b__law_draw : MS := (sSeq (sIf (mTest (mBin (pp2 iEq) (mBin dIx (mVar 0) (mK (.int 2))) (mK (.int 0)))) (sAsg (mCall M__law_filled (mCons (mVar 0) mNil)) (gIx (mVar 0) (mK (.int 2)))) sNext) (sSeq (sSet 2 (mBin (pp2 iMod) (mCall fInt (mCons (mBin dIx (mVar 0) (mK (.int 2))) mNil)) (mVar 1))) (sSeq (sAsg (mBin (pp2 iDiv) (mCall fInt (mCons (mBin dIx (mVar 0) (mK (.int 2))) mNil)) (mVar 1)) (gIx (mVar 0) (mK (.int 2)))) (sRet (mVar 2)))))
theorem raw__law_draw (N : Nm K mg) : DefOk P w K mg base "_law_draw" 3 2 (fnM 2 3 b__law_draw) := def_mk N.d__law_draw sc__law_draw bn__law_draw rfl rfl fun f cdv A outer s H E hr nd tk hp => (ss_cons (s_if (t_cmp (o_eq hr.units) (e_ix (e_var (i := 0)) e_int) e_int (nomark _)) (ss_one (s_asg (e_callS (ok__law_filled N) hr (by decide) tk (a_cons (e_var (i := 0)) a_nil) (argN_cons argN_nil)) (g_ix (e_var (i := 0)) e_int))) ss_nil) (ss_cons (s_set (i := 2) nd (e_bin o_mod (e_ty b_int rfl N.f_int bt_int (a_cons (e_ix (e_var (i := 0)) e_int) a_nil)) (e_var (i := 1)))) (ss_cons (s_asg (e_bin o_div (e_ty b_int rfl N.f_int bt_int (a_cons (e_ix (e_var (i := 0)) e_int) a_nil)) (e_var (i := 1))) (g_ix (e_var (i := 0)) e_int)) (ss_one (s_ret (e_var (i := 2)))))))
noncomputable def M__law_draw : List D → S → R D := drawRun (fnM 2 3 b__law_draw)
theorem ok__law_draw (N : Nm K mg) : DefOk P w K mg base "_law_draw" 3 2 M__law_draw := (raw__law_draw N).draw
theorem draw {g w : GH} (hw : WA w) (n : Int) (h0 : 0 < n := by decide) (h1 : n < 1073741824 := by decide) : ∃ (r : Int) (w' : GH), 0 ≤ r ∧ r < n ∧ WA w' ∧ M__law_draw [.well 0, .p (.int n)] ⟨g, w⟩ = .ok (.p (.int r)) ⟨g, w'⟩ := by
  obtain ⟨ns, a, b, c, ha, rfl⟩ := hw
  have key : ∃ v a' c', 0 ≤ a' ∧ fnM 2 3 b__law_draw [.ref 0, .p (.int n)] ⟨wellL ns a b c, []⟩ = .ok (.p (.int (v % n))) ⟨wellL ns a' (v / n) c', []⟩ := by
    have d := div_ok (j := n) ⟨h0, h1⟩
    by_cases hb : b = 0
    · obtain ⟨v, a', c', ha', e⟩ := filled ns a b c ha
      refine ⟨v, a', c', ha', ?_⟩
      subst hb
      unfold wellL at e ⊢
      simp [b__law_draw, pureRun, onlyP, fnM, mVar, mK, mBin, mUn, mTru, mTest, mAnd, mOr, mNot, mAndV, mOrV, mNotV, mIf, mNil, mCons, mTup, mLst, mLstF, mCall, mChain, mIsi, fIsi, tyD, tyP, mSlice, oNo, oSome, mSeq, srcOf, mRange1, mRange2, sNext, sSeq, sIf, sRet, sRetN, sExpr, sSet, sAsg, sAug, sFor, sRaise, gSet, gMore, gNone, Mp.gTup, mMeth, fAppend, mEnum, srcEnum, mDNew, fLen, fInt, truth, ptruth, asB, pp1, pp2, ret1, dIs, isN, allP, frzD, mFrz, Mp.R.bind, R.thn, RS.seq, List.map_cons, List.map_nil, List.cons_append, List.nil_append, List.length_cons, List.length_nil, List.getElem?_cons_zero, List.getElem?_cons_succ, List.getElem?_nil, List.set_cons_zero, List.set_cons_succ, if_true, ite_true, Nat.reduceAdd, Nat.reduceSub, List.replicate, Bool.false_eq_true, if_false, Bool.not_true, Bool.not_false, dIx, ixAt, ixN, iEq, SeqAt.shaped, PyData.canLay0, PyData.depth, PyData.eqv, e, gIx, setIx, iMod, iDiv, h0, d]
    · refine ⟨b, a, c, ha, ?_⟩
      unfold wellL
      simp [b__law_draw, pureRun, onlyP, fnM, mVar, mK, mBin, mUn, mTru, mTest, mAnd, mOr, mNot, mAndV, mOrV, mNotV, mIf, mNil, mCons, mTup, mLst, mLstF, mCall, mChain, mIsi, fIsi, tyD, tyP, mSlice, oNo, oSome, mSeq, srcOf, mRange1, mRange2, sNext, sSeq, sIf, sRet, sRetN, sExpr, sSet, sAsg, sAug, sFor, sRaise, gSet, gMore, gNone, Mp.gTup, mMeth, fAppend, mEnum, srcEnum, mDNew, fLen, fInt, truth, ptruth, asB, pp1, pp2, ret1, dIs, isN, allP, frzD, mFrz, Mp.R.bind, R.thn, RS.seq, List.map_cons, List.map_nil, List.cons_append, List.nil_append, List.length_cons, List.length_nil, List.getElem?_cons_zero, List.getElem?_cons_succ, List.getElem?_nil, List.set_cons_zero, List.set_cons_succ, if_true, ite_true, Nat.reduceAdd, Nat.reduceSub, List.replicate, Bool.false_eq_true, if_false, Bool.not_true, Bool.not_false, dIx, ixAt, ixN, iEq, SeqAt.shaped, PyData.canLay0, PyData.depth, PyData.eqv, hb, gIx, setIx, iMod, iDiv, h0, d]
  obtain ⟨v, a', c', ha', e⟩ := key
  refine ⟨v % n, _, Int.emod_nonneg _ (by omega), Int.emod_lt_of_pos _ h0, ⟨ns, a', v / n, c', ha', rfl⟩, ?_⟩
  unfold M__law_draw drawRun
  unfold wellL at e
  simp only [onlyD, if_true, e]
theorem draw_w {g w : GH} {n : Int} {Q : D → S → Prop} (hw : WA w) (h0 : 0 < n) (h1 : n < 1073741824) (h : ∀ (r : Nat) (w' : GH), (r : Int) < n → WA w' → Q (.p (.int r)) ⟨g, w'⟩) : Gets (M__law_draw [.well 0, .p (.int n)] ⟨g, w⟩) Q := by
  obtain ⟨r, w', h2, h3, h4, e⟩ := draw (g := g) hw n h0 h1
  obtain ⟨k, rfl⟩ := Int.eq_ofNat_of_zero_le h2
  exact ⟨_, _, e, h k w' h3 h4⟩

/-! _law_more -/
theorem sc__law_more : FnScope ["_law_well_here"] ["_law_well_here"] (defScope t__law_more) := ⟨rfl, rfl, rfl, by decide +kernel, rfl, by decide +kernel, by decide +kernel⟩
theorem bn__law_more : BindN "_law_more" t__law_more ["_law_well_here"] := fun _ _ _ _ _ _ us hl => match us, hl with | [_], _ => rfl
noncomputable def b__law_more : MS := (sRet (mBin dIx (mLstF (mCons (mCall M__law_draw (mCons (mVar 0) (mCons (mK (.int 2)) mNil))) (mCons (mCall M__law_draw (mCons (mVar 0) (mCons (mK (.int 4)) mNil))) (mCons (mCall M__law_draw (mCons (mVar 0) (mCons (mK (.int 61)) mNil))) mNil)))) (mBin dIx (mLstF (mCons (mK (.int 0)) (mCons (mK (.int 0)) (mCons (mK (.int 1)) (mCons (mK (.int 1)) (mCons (mK (.int 2)) mNil)))))) (mCall M__law_draw (mCons (mVar 0) (mCons (mK (.int 5)) mNil))))))
theorem raw__law_more (N : Nm K mg) : DefOk P w K mg base "_law_more" 4 1 (fnM 1 1 b__law_more) := def_mk N.d__law_more sc__law_more bn__law_more rfl rfl fun f cdv A outer s H E hr nd tk hp => (ss_one (s_ret (e_ix (e_lstF (a_cons (e_callS (ok__law_draw N) hr (by decide) tk (a_cons (e_var (i := 0)) (a_cons e_int a_nil)) (argN_cons (argN_cons argN_nil))) (a_cons (e_callS (ok__law_draw N) hr (by decide) tk (a_cons (e_var (i := 0)) (a_cons e_int a_nil)) (argN_cons (argN_cons argN_nil))) (a_cons (e_callS (ok__law_draw N) hr (by decide) tk (a_cons (e_var (i := 0)) (a_cons e_int a_nil)) (argN_cons (argN_cons argN_nil))) a_nil)))) (e_ix (e_lstF (a_cons e_int (a_cons e_int (a_cons e_int (a_cons e_int (a_cons e_int a_nil)))))) (e_callS (ok__law_draw N) hr (by decide) tk (a_cons (e_var (i := 0)) (a_cons e_int a_nil)) (argN_cons (argN_cons argN_nil)))))))
theorem Mx__law_more : ∃ f : List D → S → R D, f = pureRun (fnM 1 1 b__law_more) := ⟨_, rfl⟩
noncomputable def M__law_more : List D → S → R D := Classical.choose Mx__law_more
theorem Me__law_more : M__law_more = pureRun (fnM 1 1 b__law_more) := Classical.choose_spec Mx__law_more
theorem ok__law_more (N : Nm K mg) : DefOk P w K mg base "_law_more" 4 1 M__law_more := by rw [Me__law_more]; exact (raw__law_more N).alone
theorem more_w {g w : GH} {Q : D → S → Prop} (hw : WA w) (h : ∀ (r : Nat) (w' : GH), r ≤ 60 → WA w' → Q (.p (.int r)) ⟨g, w'⟩) : Gets (M__law_more [.well 0] ⟨g, w⟩) Q := by
  rw [Me__law_more]; refine pure_gets rfl ?_
  simp only [b__law_more, mVar, mK, mBin, mUn, mTru, mTest, mAnd, mOr, mNot, mAndV, mOrV, mNotV, mIf, mNil, mCons, mTup, mLst, mLstF, mCall, mChain, mIsi, fIsi, tyD, tyP, mSlice, oNo, oSome, mSeq, srcOf, mRange1, mRange2, sNext, sSeq, sIf, sRet, sRetN, sExpr, sSet, sAsg, sAug, sFor, sRaise, gSet, gMore, gNone, Mp.gTup, mMeth, fAppend, mEnum, srcEnum, mDNew, fLen, fInt, truth, ptruth, asB, pp1, pp2, ret1, dIs, isN, allP, frzD, mFrz, List.map_cons, List.map_nil, List.cons_append, List.nil_append, List.length_cons, List.length_nil, List.getElem?_cons_zero, List.getElem?_cons_succ, List.getElem?_nil, List.set_cons_zero, List.set_cons_succ, if_true, ite_true, Nat.reduceAdd, Nat.reduceSub, List.replicate, Bool.false_eq_true, if_false, Bool.not_true, Bool.not_false, mp_ft, mp_tf, isTy, beq_self_eq_true, isi0, isi1, isi2, isi3, isi4, isi5, isi6, isi7, isi8, isi9, isi10, isi11, isi12, isi13, isi14, isi15, isi16, isi17, isi18, isi19, isi20, isi21, isi22, isi23, isi24, isi25, isi26, isi27, isi28, isi29, isi30, isi31, isi32, isi33, isi34, isi35, isi36, isi37, isi38, isi39, isi40, isi41, onlyF, dIx_tup, dIx_lst, dIx_ref, ixAt_0, ixAt_1, ixAt_2, ixAt_3, iEq_int, iNe_int, dAdd, iAdd, iSub, iNeg, iCmp, iLe, iLt, iGe, iGt, dMul, iMulT, iMul, iMod, iDiv, gIx, setIx, decide_true, decide_false, decide_eq_true_eq, Bool.not_eq_true, List.length_map, gets_ok, gets_bind, gets_ite, rsw_ite, rsw_seq, rsw_thn, rsw_nx, rsw_ret, rst_x, rsx_seq, rsx_nx, rsx_ret, rsx_brk, rsx_cont, rsx_ite, rsx_thn, gets_fnM, onlyP, Option.map_some, Src.items]
  refine draw_w hw (by decide) (by decide) fun a w1 ha hw1 => ?_
  simp only [mVar, mK, mBin, mUn, mTru, mTest, mAnd, mOr, mNot, mAndV, mOrV, mNotV, mIf, mNil, mCons, mTup, mLst, mLstF, mCall, mChain, mIsi, fIsi, tyD, tyP, mSlice, oNo, oSome, mSeq, srcOf, mRange1, mRange2, sNext, sSeq, sIf, sRet, sRetN, sExpr, sSet, sAsg, sAug, sFor, sRaise, gSet, gMore, gNone, Mp.gTup, mMeth, fAppend, mEnum, srcEnum, mDNew, fLen, fInt, truth, ptruth, asB, pp1, pp2, ret1, dIs, isN, allP, frzD, mFrz, List.map_cons, List.map_nil, List.cons_append, List.nil_append, List.length_cons, List.length_nil, List.getElem?_cons_zero, List.getElem?_cons_succ, List.getElem?_nil, List.set_cons_zero, List.set_cons_succ, if_true, ite_true, Nat.reduceAdd, Nat.reduceSub, List.replicate, Bool.false_eq_true, if_false, Bool.not_true, Bool.not_false, mp_ft, mp_tf, isTy, beq_self_eq_true, isi0, isi1, isi2, isi3, isi4, isi5, isi6, isi7, isi8, isi9, isi10, isi11, isi12, isi13, isi14, isi15, isi16, isi17, isi18, isi19, isi20, isi21, isi22, isi23, isi24, isi25, isi26, isi27, isi28, isi29, isi30, isi31, isi32, isi33, isi34, isi35, isi36, isi37, isi38, isi39, isi40, isi41, onlyF, dIx_tup, dIx_lst, dIx_ref, ixAt_0, ixAt_1, ixAt_2, ixAt_3, iEq_int, iNe_int, dAdd, iAdd, iSub, iNeg, iCmp, iLe, iLt, iGe, iGt, dMul, iMulT, iMul, iMod, iDiv, gIx, setIx, decide_true, decide_false, decide_eq_true_eq, Bool.not_eq_true, List.length_map, gets_ok, gets_bind, gets_ite, rsw_ite, rsw_seq, rsw_thn, rsw_nx, rsw_ret, rst_x, rsx_seq, rsx_nx, rsx_ret, rsx_brk, rsx_cont, rsx_ite, rsx_thn, gets_fnM, onlyP, Option.map_some, Src.items]
  refine draw_w hw1 (by decide) (by decide) fun b w2 hb hw2 => ?_
  simp only [mVar, mK, mBin, mUn, mTru, mTest, mAnd, mOr, mNot, mAndV, mOrV, mNotV, mIf, mNil, mCons, mTup, mLst, mLstF, mCall, mChain, mIsi, fIsi, tyD, tyP, mSlice, oNo, oSome, mSeq, srcOf, mRange1, mRange2, sNext, sSeq, sIf, sRet, sRetN, sExpr, sSet, sAsg, sAug, sFor, sRaise, gSet, gMore, gNone, Mp.gTup, mMeth, fAppend, mEnum, srcEnum, mDNew, fLen, fInt, truth, ptruth, asB, pp1, pp2, ret1, dIs, isN, allP, frzD, mFrz, List.map_cons, List.map_nil, List.cons_append, List.nil_append, List.length_cons, List.length_nil, List.getElem?_cons_zero, List.getElem?_cons_succ, List.getElem?_nil, List.set_cons_zero, List.set_cons_succ, if_true, ite_true, Nat.reduceAdd, Nat.reduceSub, List.replicate, Bool.false_eq_true, if_false, Bool.not_true, Bool.not_false, mp_ft, mp_tf, isTy, beq_self_eq_true, isi0, isi1, isi2, isi3, isi4, isi5, isi6, isi7, isi8, isi9, isi10, isi11, isi12, isi13, isi14, isi15, isi16, isi17, isi18, isi19, isi20, isi21, isi22, isi23, isi24, isi25, isi26, isi27, isi28, isi29, isi30, isi31, isi32, isi33, isi34, isi35, isi36, isi37, isi38, isi39, isi40, isi41, onlyF, dIx_tup, dIx_lst, dIx_ref, ixAt_0, ixAt_1, ixAt_2, ixAt_3, iEq_int, iNe_int, dAdd, iAdd, iSub, iNeg, iCmp, iLe, iLt, iGe, iGt, dMul, iMulT, iMul, iMod, iDiv, gIx, setIx, decide_true, decide_false, decide_eq_true_eq, Bool.not_eq_true, List.length_map, gets_ok, gets_bind, gets_ite, rsw_ite, rsw_seq, rsw_thn, rsw_nx, rsw_ret, rst_x, rsx_seq, rsx_nx, rsx_ret, rsx_brk, rsx_cont, rsx_ite, rsx_thn, gets_fnM, onlyP, Option.map_some, Src.items]
  refine draw_w hw2 (by decide) (by decide) fun c w3 hc hw3 => ?_
  have z3 : sizeOk 3 = true := by decide
  have z5 : sizeOk 5 = true := by decide
  simp only [mVar, mK, mBin, mUn, mTru, mTest, mAnd, mOr, mNot, mAndV, mOrV, mNotV, mIf, mNil, mCons, mTup, mLst, mLstF, mCall, mChain, mIsi, fIsi, tyD, tyP, mSlice, oNo, oSome, mSeq, srcOf, mRange1, mRange2, sNext, sSeq, sIf, sRet, sRetN, sExpr, sSet, sAsg, sAug, sFor, sRaise, gSet, gMore, gNone, Mp.gTup, mMeth, fAppend, mEnum, srcEnum, mDNew, fLen, fInt, truth, ptruth, asB, pp1, pp2, ret1, dIs, isN, allP, frzD, mFrz, List.map_cons, List.map_nil, List.cons_append, List.nil_append, List.length_cons, List.length_nil, List.getElem?_cons_zero, List.getElem?_cons_succ, List.getElem?_nil, List.set_cons_zero, List.set_cons_succ, if_true, ite_true, Nat.reduceAdd, Nat.reduceSub, List.replicate, Bool.false_eq_true, if_false, Bool.not_true, Bool.not_false, mp_ft, mp_tf, isTy, beq_self_eq_true, isi0, isi1, isi2, isi3, isi4, isi5, isi6, isi7, isi8, isi9, isi10, isi11, isi12, isi13, isi14, isi15, isi16, isi17, isi18, isi19, isi20, isi21, isi22, isi23, isi24, isi25, isi26, isi27, isi28, isi29, isi30, isi31, isi32, isi33, isi34, isi35, isi36, isi37, isi38, isi39, isi40, isi41, onlyF, dIx_tup, dIx_lst, dIx_ref, ixAt_0, ixAt_1, ixAt_2, ixAt_3, iEq_int, iNe_int, dAdd, iAdd, iSub, iNeg, iCmp, iLe, iLt, iGe, iGt, dMul, iMulT, iMul, iMod, iDiv, gIx, setIx, decide_true, decide_false, decide_eq_true_eq, Bool.not_eq_true, List.length_map, gets_ok, gets_bind, gets_ite, rsw_ite, rsw_seq, rsw_thn, rsw_nx, rsw_ret, rst_x, rsx_seq, rsx_nx, rsx_ret, rsx_brk, rsx_cont, rsx_ite, rsx_thn, gets_fnM, onlyP, Option.map_some, Src.items, z3, z5]
  refine draw_w hw3 (by decide) (by decide) fun r w4 hr hw4 => ?_
  simp only [mVar, mK, mBin, mUn, mTru, mTest, mAnd, mOr, mNot, mAndV, mOrV, mNotV, mIf, mNil, mCons, mTup, mLst, mLstF, mCall, mChain, mIsi, fIsi, tyD, tyP, mSlice, oNo, oSome, mSeq, srcOf, mRange1, mRange2, sNext, sSeq, sIf, sRet, sRetN, sExpr, sSet, sAsg, sAug, sFor, sRaise, gSet, gMore, gNone, Mp.gTup, mMeth, fAppend, mEnum, srcEnum, mDNew, fLen, fInt, truth, ptruth, asB, pp1, pp2, ret1, dIs, isN, allP, frzD, mFrz, List.map_cons, List.map_nil, List.cons_append, List.nil_append, List.length_cons, List.length_nil, List.getElem?_cons_zero, List.getElem?_cons_succ, List.getElem?_nil, List.set_cons_zero, List.set_cons_succ, if_true, ite_true, Nat.reduceAdd, Nat.reduceSub, List.replicate, Bool.false_eq_true, if_false, Bool.not_true, Bool.not_false, mp_ft, mp_tf, isTy, beq_self_eq_true, isi0, isi1, isi2, isi3, isi4, isi5, isi6, isi7, isi8, isi9, isi10, isi11, isi12, isi13, isi14, isi15, isi16, isi17, isi18, isi19, isi20, isi21, isi22, isi23, isi24, isi25, isi26, isi27, isi28, isi29, isi30, isi31, isi32, isi33, isi34, isi35, isi36, isi37, isi38, isi39, isi40, isi41, onlyF, dIx_tup, dIx_lst, dIx_ref, ixAt_0, ixAt_1, ixAt_2, ixAt_3, iEq_int, iNe_int, dAdd, iAdd, iSub, iNeg, iCmp, iLe, iLt, iGe, iGt, dMul, iMulT, iMul, iMod, iDiv, gIx, setIx, decide_true, decide_false, decide_eq_true_eq, Bool.not_eq_true, List.length_map, gets_ok, gets_bind, gets_ite, rsw_ite, rsw_seq, rsw_thn, rsw_nx, rsw_ret, rst_x, rsx_seq, rsx_nx, rsx_ret, rsx_brk, rsx_cont, rsx_ite, rsx_thn, gets_fnM, onlyP, Option.map_some, Src.items]
  refine ix_w (by simp; omega) ?_
  have k1 : ∃ x, PyData.int a = x ∧ Q (.p x) ⟨g, w4⟩ := ⟨_, rfl, h a w4 (by omega) hw4⟩
  have k2 : ∃ x, PyData.int b = x ∧ Q (.p x) ⟨g, w4⟩ := ⟨_, rfl, h b w4 (by omega) hw4⟩
  have k3 : ∃ x, PyData.int c = x ∧ Q (.p x) ⟨g, w4⟩ := ⟨_, rfl, h c w4 (by omega) hw4⟩
  simp [pureRun, onlyP, fnM, mVar, mK, mBin, mUn, mTru, mTest, mAnd, mOr, mNot, mAndV, mOrV, mNotV, mIf, mNil, mCons, mTup, mLst, mLstF, mCall, mChain, mIsi, fIsi, tyD, tyP, mSlice, oNo, oSome, mSeq, srcOf, mRange1, mRange2, sNext, sSeq, sIf, sRet, sRetN, sExpr, sSet, sAsg, sAug, sFor, sRaise, gSet, gMore, gNone, Mp.gTup, mMeth, fAppend, mEnum, srcEnum, mDNew, fLen, fInt, truth, ptruth, asB, pp1, pp2, ret1, dIs, isN, allP, frzD, mFrz, Mp.R.bind, R.thn, RS.seq, List.map_cons, List.map_nil, List.cons_append, List.nil_append, List.length_cons, List.length_nil, List.getElem?_cons_zero, List.getElem?_cons_succ, List.getElem?_nil, List.set_cons_zero, List.set_cons_succ, if_true, ite_true, Nat.reduceAdd, Nat.reduceSub, List.replicate, Bool.false_eq_true, if_false, Bool.not_true, Bool.not_false, mp_ft, mp_tf, isTy, beq_self_eq_true, isi0, isi1, isi2, isi3, isi4, isi5, isi6, isi7, isi8, isi9, isi10, isi11, isi12, isi13, isi14, isi15, isi16, isi17, isi18, isi19, isi20, isi21, isi22, isi23, isi24, isi25, isi26, isi27, isi28, isi29, isi30, isi31, isi32, isi33, isi34, isi35, isi36, isi37, isi38, isi39, isi40, isi41, onlyF, dIx_tup, dIx_lst, dIx_ref, ixAt_0, ixAt_1, ixAt_2, ixAt_3, iEq_int, iNe_int, dAdd, iAdd, iSub, iNeg, iCmp, iLe, iLt, iGe, iGt, dMul, iMulT, iMul, iMod, iDiv, gIx, setIx, decide_true, decide_false, decide_eq_true_eq, Bool.not_eq_true, List.length_map, gets_ok, k1, k2, k3, h a w4 (by omega) hw4, h b w4 (by omega) hw4, h c w4 (by omega) hw4]

/-! _law_step -/
theorem sc__law_step : FnScope ["_law_well_here", "_law_states", "_law_lack"] ["_law_well_here", "_law_states", "_law_lack"] (defScope t__law_step) := ⟨rfl, rfl, rfl, by decide +kernel, rfl, by decide +kernel, by decide +kernel⟩
theorem bn__law_step : BindN "_law_step" t__law_step ["_law_well_here", "_law_states", "_law_lack"] := fun _ _ _ _ _ _ us hl => match us, hl with | [_, _, _], _ => rfl
noncomputable def b__law_step : MS := (sSeq (sIf (mTest (mBin (pp2 iLt) (mCall M__law_draw (mCons (mVar 0) (mCons (mK (.int 6)) mNil))) (mVar 2))) (sRet (mK .none)) sNext) (sRet (mTup (mCons (mCall M__law_more (mCons (mVar 0) mNil)) (mCons (mCall M__law_draw (mCons (mVar 0) (mCons (mVar 1) mNil))) mNil)))))
theorem raw__law_step (N : Nm K mg) : DefOk P w K mg base "_law_step" 5 3 (fnM 3 3 b__law_step) := def_mk N.d__law_step sc__law_step bn__law_step rfl rfl fun f cdv A outer s H E hr nd tk hp => (ss_cons (s_if (t_cmp o_ltP (e_callS (ok__law_draw N) hr (by decide) tk (a_cons (e_var (i := 0)) (a_cons e_int a_nil)) (argN_cons (argN_cons argN_nil))) (e_var (i := 2)) (nomark _)) (ss_one (s_ret e_none)) ss_nil) (ss_one (s_ret (e_tup (a_cons (e_callS (ok__law_more N) hr (by decide) tk (a_cons (e_var (i := 0)) a_nil) (argN_cons argN_nil)) (a_cons (e_callS (ok__law_draw N) hr (by decide) tk (a_cons (e_var (i := 0)) (a_cons (e_var (i := 1)) a_nil)) (argN_cons (argN_cons argN_nil))) a_nil))))))
theorem Mx__law_step : ∃ f : List D → S → R D, f = pureRun (fnM 3 3 b__law_step) := ⟨_, rfl⟩
noncomputable def M__law_step : List D → S → R D := Classical.choose Mx__law_step
theorem Me__law_step : M__law_step = pureRun (fnM 3 3 b__law_step) := Classical.choose_spec Mx__law_step
theorem ok__law_step (N : Nm K mg) : DefOk P w K mg base "_law_step" 5 3 M__law_step := by rw [Me__law_step]; exact (raw__law_step N).alone
theorem step_w {g w : GH} {q : Nat} {l : Int} {Q : D → S → Prop} (hw : WA w) (hq : 0 < q) (hq2 : q < 1000000) (h : ∀ (s : MSt) (w' : GH), MSt.Ok q s → WA w' → Q (.p (eS s)) ⟨g, w'⟩) : Gets (M__law_step [.well 0, .p (.int q), .p (.int l)] ⟨g, w⟩) Q := by
  rw [Me__law_step]; refine pure_gets rfl ?_
  simp only [b__law_step, mVar, mK, mBin, mUn, mTru, mTest, mAnd, mOr, mNot, mAndV, mOrV, mNotV, mIf, mNil, mCons, mTup, mLst, mLstF, mCall, mChain, mIsi, fIsi, tyD, tyP, mSlice, oNo, oSome, mSeq, srcOf, mRange1, mRange2, sNext, sSeq, sIf, sRet, sRetN, sExpr, sSet, sAsg, sAug, sFor, sRaise, gSet, gMore, gNone, Mp.gTup, mMeth, fAppend, mEnum, srcEnum, mDNew, fLen, fInt, truth, ptruth, asB, pp1, pp2, ret1, dIs, isN, allP, frzD, mFrz, List.map_cons, List.map_nil, List.cons_append, List.nil_append, List.length_cons, List.length_nil, List.getElem?_cons_zero, List.getElem?_cons_succ, List.getElem?_nil, List.set_cons_zero, List.set_cons_succ, if_true, ite_true, Nat.reduceAdd, Nat.reduceSub, List.replicate, Bool.false_eq_true, if_false, Bool.not_true, Bool.not_false, mp_ft, mp_tf, isTy, beq_self_eq_true, isi0, isi1, isi2, isi3, isi4, isi5, isi6, isi7, isi8, isi9, isi10, isi11, isi12, isi13, isi14, isi15, isi16, isi17, isi18, isi19, isi20, isi21, isi22, isi23, isi24, isi25, isi26, isi27, isi28, isi29, isi30, isi31, isi32, isi33, isi34, isi35, isi36, isi37, isi38, isi39, isi40, isi41, onlyF, dIx_tup, dIx_lst, dIx_ref, ixAt_0, ixAt_1, ixAt_2, ixAt_3, iEq_int, iNe_int, dAdd, iAdd, iSub, iNeg, iCmp, iLe, iLt, iGe, iGt, dMul, iMulT, iMul, iMod, iDiv, gIx, setIx, decide_true, decide_false, decide_eq_true_eq, Bool.not_eq_true, List.length_map, gets_ok, gets_bind, gets_ite, rsw_ite, rsw_seq, rsw_thn, rsw_nx, rsw_ret, rst_x, rsx_seq, rsx_nx, rsx_ret, rsx_brk, rsx_cont, rsx_ite, rsx_thn, gets_fnM, onlyP, Option.map_some, Src.items]
  refine draw_w hw (by decide) (by decide) fun a w1 ha hw1 => ?_
  simp only [mVar, mK, mBin, mUn, mTru, mTest, mAnd, mOr, mNot, mAndV, mOrV, mNotV, mIf, mNil, mCons, mTup, mLst, mLstF, mCall, mChain, mIsi, fIsi, tyD, tyP, mSlice, oNo, oSome, mSeq, srcOf, mRange1, mRange2, sNext, sSeq, sIf, sRet, sRetN, sExpr, sSet, sAsg, sAug, sFor, sRaise, gSet, gMore, gNone, Mp.gTup, mMeth, fAppend, mEnum, srcEnum, mDNew, fLen, fInt, truth, ptruth, asB, pp1, pp2, ret1, dIs, isN, allP, frzD, mFrz, List.map_cons, List.map_nil, List.cons_append, List.nil_append, List.length_cons, List.length_nil, List.getElem?_cons_zero, List.getElem?_cons_succ, List.getElem?_nil, List.set_cons_zero, List.set_cons_succ, if_true, ite_true, Nat.reduceAdd, Nat.reduceSub, List.replicate, Bool.false_eq_true, if_false, Bool.not_true, Bool.not_false, mp_ft, mp_tf, isTy, beq_self_eq_true, isi0, isi1, isi2, isi3, isi4, isi5, isi6, isi7, isi8, isi9, isi10, isi11, isi12, isi13, isi14, isi15, isi16, isi17, isi18, isi19, isi20, isi21, isi22, isi23, isi24, isi25, isi26, isi27, isi28, isi29, isi30, isi31, isi32, isi33, isi34, isi35, isi36, isi37, isi38, isi39, isi40, isi41, onlyF, dIx_tup, dIx_lst, dIx_ref, ixAt_0, ixAt_1, ixAt_2, ixAt_3, iEq_int, iNe_int, dAdd, iAdd, iSub, iNeg, iCmp, iLe, iLt, iGe, iGt, dMul, iMulT, iMul, iMod, iDiv, gIx, setIx, decide_true, decide_false, decide_eq_true_eq, Bool.not_eq_true, List.length_map, gets_ok, gets_bind, gets_ite, rsw_ite, rsw_seq, rsw_thn, rsw_nx, rsw_ret, rst_x, rsx_seq, rsx_nx, rsx_ret, rsx_brk, rsx_cont, rsx_ite, rsx_thn, gets_fnM, onlyP, Option.map_some, Src.items]
  by_cases hl : (a : Int) < l
  · simp only [hl, mVar, mK, mBin, mUn, mTru, mTest, mAnd, mOr, mNot, mAndV, mOrV, mNotV, mIf, mNil, mCons, mTup, mLst, mLstF, mCall, mChain, mIsi, fIsi, tyD, tyP, mSlice, oNo, oSome, mSeq, srcOf, mRange1, mRange2, sNext, sSeq, sIf, sRet, sRetN, sExpr, sSet, sAsg, sAug, sFor, sRaise, gSet, gMore, gNone, Mp.gTup, mMeth, fAppend, mEnum, srcEnum, mDNew, fLen, fInt, truth, ptruth, asB, pp1, pp2, ret1, dIs, isN, allP, frzD, mFrz, List.map_cons, List.map_nil, List.cons_append, List.nil_append, List.length_cons, List.length_nil, List.getElem?_cons_zero, List.getElem?_cons_succ, List.getElem?_nil, List.set_cons_zero, List.set_cons_succ, if_true, ite_true, Nat.reduceAdd, Nat.reduceSub, List.replicate, Bool.false_eq_true, if_false, Bool.not_true, Bool.not_false, mp_ft, mp_tf, isTy, beq_self_eq_true, isi0, isi1, isi2, isi3, isi4, isi5, isi6, isi7, isi8, isi9, isi10, isi11, isi12, isi13, isi14, isi15, isi16, isi17, isi18, isi19, isi20, isi21, isi22, isi23, isi24, isi25, isi26, isi27, isi28, isi29, isi30, isi31, isi32, isi33, isi34, isi35, isi36, isi37, isi38, isi39, isi40, isi41, onlyF, dIx_tup, dIx_lst, dIx_ref, ixAt_0, ixAt_1, ixAt_2, ixAt_3, iEq_int, iNe_int, dAdd, iAdd, iSub, iNeg, iCmp, iLe, iLt, iGe, iGt, dMul, iMulT, iMul, iMod, iDiv, gIx, setIx, decide_true, decide_false, decide_eq_true_eq, Bool.not_eq_true, List.length_map, gets_ok, gets_bind, gets_ite, rsw_ite, rsw_seq, rsw_thn, rsw_nx, rsw_ret, rst_x, rsx_seq, rsx_nx, rsx_ret, rsx_brk, rsx_cont, rsx_ite, rsx_thn, gets_fnM, onlyP, Option.map_some, Src.items]
    exact ⟨_, rfl, h none w1 (fun p e => by cases e) hw1⟩
  · simp only [hl, mVar, mK, mBin, mUn, mTru, mTest, mAnd, mOr, mNot, mAndV, mOrV, mNotV, mIf, mNil, mCons, mTup, mLst, mLstF, mCall, mChain, mIsi, fIsi, tyD, tyP, mSlice, oNo, oSome, mSeq, srcOf, mRange1, mRange2, sNext, sSeq, sIf, sRet, sRetN, sExpr, sSet, sAsg, sAug, sFor, sRaise, gSet, gMore, gNone, Mp.gTup, mMeth, fAppend, mEnum, srcEnum, mDNew, fLen, fInt, truth, ptruth, asB, pp1, pp2, ret1, dIs, isN, allP, frzD, mFrz, List.map_cons, List.map_nil, List.cons_append, List.nil_append, List.length_cons, List.length_nil, List.getElem?_cons_zero, List.getElem?_cons_succ, List.getElem?_nil, List.set_cons_zero, List.set_cons_succ, if_true, ite_true, Nat.reduceAdd, Nat.reduceSub, List.replicate, Bool.false_eq_true, if_false, Bool.not_true, Bool.not_false, mp_ft, mp_tf, isTy, beq_self_eq_true, isi0, isi1, isi2, isi3, isi4, isi5, isi6, isi7, isi8, isi9, isi10, isi11, isi12, isi13, isi14, isi15, isi16, isi17, isi18, isi19, isi20, isi21, isi22, isi23, isi24, isi25, isi26, isi27, isi28, isi29, isi30, isi31, isi32, isi33, isi34, isi35, isi36, isi37, isi38, isi39, isi40, isi41, onlyF, dIx_tup, dIx_lst, dIx_ref, ixAt_0, ixAt_1, ixAt_2, ixAt_3, iEq_int, iNe_int, dAdd, iAdd, iSub, iNeg, iCmp, iLe, iLt, iGe, iGt, dMul, iMulT, iMul, iMod, iDiv, gIx, setIx, decide_true, decide_false, decide_eq_true_eq, Bool.not_eq_true, List.length_map, gets_ok, gets_bind, gets_ite, rsw_ite, rsw_seq, rsw_thn, rsw_nx, rsw_ret, rst_x, rsx_seq, rsx_nx, rsx_ret, rsx_brk, rsx_cont, rsx_ite, rsx_thn, gets_fnM, onlyP, Option.map_some, Src.items]
    refine more_w hw1 fun b w2 hb hw2 => ?_
    simp only [mVar, mK, mBin, mUn, mTru, mTest, mAnd, mOr, mNot, mAndV, mOrV, mNotV, mIf, mNil, mCons, mTup, mLst, mLstF, mCall, mChain, mIsi, fIsi, tyD, tyP, mSlice, oNo, oSome, mSeq, srcOf, mRange1, mRange2, sNext, sSeq, sIf, sRet, sRetN, sExpr, sSet, sAsg, sAug, sFor, sRaise, gSet, gMore, gNone, Mp.gTup, mMeth, fAppend, mEnum, srcEnum, mDNew, fLen, fInt, truth, ptruth, asB, pp1, pp2, ret1, dIs, isN, allP, frzD, mFrz, List.map_cons, List.map_nil, List.cons_append, List.nil_append, List.length_cons, List.length_nil, List.getElem?_cons_zero, List.getElem?_cons_succ, List.getElem?_nil, List.set_cons_zero, List.set_cons_succ, if_true, ite_true, Nat.reduceAdd, Nat.reduceSub, List.replicate, Bool.false_eq_true, if_false, Bool.not_true, Bool.not_false, mp_ft, mp_tf, isTy, beq_self_eq_true, isi0, isi1, isi2, isi3, isi4, isi5, isi6, isi7, isi8, isi9, isi10, isi11, isi12, isi13, isi14, isi15, isi16, isi17, isi18, isi19, isi20, isi21, isi22, isi23, isi24, isi25, isi26, isi27, isi28, isi29, isi30, isi31, isi32, isi33, isi34, isi35, isi36, isi37, isi38, isi39, isi40, isi41, onlyF, dIx_tup, dIx_lst, dIx_ref, ixAt_0, ixAt_1, ixAt_2, ixAt_3, iEq_int, iNe_int, dAdd, iAdd, iSub, iNeg, iCmp, iLe, iLt, iGe, iGt, dMul, iMulT, iMul, iMod, iDiv, gIx, setIx, decide_true, decide_false, decide_eq_true_eq, Bool.not_eq_true, List.length_map, gets_ok, gets_bind, gets_ite, rsw_ite, rsw_seq, rsw_thn, rsw_nx, rsw_ret, rst_x, rsx_seq, rsx_nx, rsx_ret, rsx_brk, rsx_cont, rsx_ite, rsx_thn, gets_fnM, onlyP, Option.map_some, Src.items]
    refine draw_w hw2 (by omega) (by omega) fun c w3 hc hw3 => ?_
    have z2 : sizeOk 2 = true := by decide
    simp only [mVar, mK, mBin, mUn, mTru, mTest, mAnd, mOr, mNot, mAndV, mOrV, mNotV, mIf, mNil, mCons, mTup, mLst, mLstF, mCall, mChain, mIsi, fIsi, tyD, tyP, mSlice, oNo, oSome, mSeq, srcOf, mRange1, mRange2, sNext, sSeq, sIf, sRet, sRetN, sExpr, sSet, sAsg, sAug, sFor, sRaise, gSet, gMore, gNone, Mp.gTup, mMeth, fAppend, mEnum, srcEnum, mDNew, fLen, fInt, truth, ptruth, asB, pp1, pp2, ret1, dIs, isN, allP, frzD, mFrz, List.map_cons, List.map_nil, List.cons_append, List.nil_append, List.length_cons, List.length_nil, List.getElem?_cons_zero, List.getElem?_cons_succ, List.getElem?_nil, List.set_cons_zero, List.set_cons_succ, if_true, ite_true, Nat.reduceAdd, Nat.reduceSub, List.replicate, Bool.false_eq_true, if_false, Bool.not_true, Bool.not_false, mp_ft, mp_tf, isTy, beq_self_eq_true, isi0, isi1, isi2, isi3, isi4, isi5, isi6, isi7, isi8, isi9, isi10, isi11, isi12, isi13, isi14, isi15, isi16, isi17, isi18, isi19, isi20, isi21, isi22, isi23, isi24, isi25, isi26, isi27, isi28, isi29, isi30, isi31, isi32, isi33, isi34, isi35, isi36, isi37, isi38, isi39, isi40, isi41, onlyF, dIx_tup, dIx_lst, dIx_ref, ixAt_0, ixAt_1, ixAt_2, ixAt_3, iEq_int, iNe_int, dAdd, iAdd, iSub, iNeg, iCmp, iLe, iLt, iGe, iGt, dMul, iMulT, iMul, iMod, iDiv, gIx, setIx, decide_true, decide_false, decide_eq_true_eq, Bool.not_eq_true, List.length_map, gets_ok, gets_bind, gets_ite, rsw_ite, rsw_seq, rsw_thn, rsw_nx, rsw_ret, rst_x, rsx_seq, rsx_nx, rsx_ret, rsx_brk, rsx_cont, rsx_ite, rsx_thn, gets_fnM, onlyP, Option.map_some, Src.items, z2]
    exact ⟨_, rfl, h (some (b, c)) w3 (fun p e => by cases e; exact ⟨hb, by show c < q; omega⟩) hw3⟩

/-! _law_end -/
theorem sc__law_end : FnScope ["_law_well_here", "_law_lack"] ["_law_well_here", "_law_lack"] (defScope t__law_end) := ⟨rfl, rfl, rfl, by decide +kernel, rfl, by decide +kernel, by decide +kernel⟩
theorem bn__law_end : BindN "_law_end" t__law_end ["_law_well_here", "_law_lack"] := fun _ _ _ _ _ _ us hl => match us, hl with | [_, _], _ => rfl
noncomputable def b__law_end : MS := (sSeq (sIf (mTest (mBin (pp2 iLt) (mCall M__law_draw (mCons (mVar 0) (mCons (mK (.int 6)) mNil))) (mVar 1))) (sRet (mK .none)) sNext) (sRet (mBin dIx (mLstF (mCons (mBin dAdd (mK (.int 1)) (mCall M__law_draw (mCons (mVar 0) (mCons (mK (.int 4)) mNil)))) (mCons (mBin dAdd (mK (.int 1)) (mCall M__law_draw (mCons (mVar 0) (mCons (mK (.int 60)) mNil)))) mNil))) (mCall fInt (mCons (mBin (pp2 iEq) (mCall M__law_draw (mCons (mVar 0) (mCons (mK (.int 5)) mNil))) (mK (.int 0))) mNil)))))
theorem raw__law_end (N : Nm K mg) : DefOk P w K mg base "_law_end" 4 2 (fnM 2 2 b__law_end) := def_mk N.d__law_end sc__law_end bn__law_end rfl rfl fun f cdv A outer s H E hr nd tk hp => (ss_cons (s_if (t_cmp o_ltP (e_callS (ok__law_draw N) hr (by decide) tk (a_cons (e_var (i := 0)) (a_cons e_int a_nil)) (argN_cons (argN_cons argN_nil))) (e_var (i := 1)) (nomark _)) (ss_one (s_ret e_none)) ss_nil) (ss_one (s_ret (e_ix (e_lstF (a_cons (e_bin o_add e_int (e_callS (ok__law_draw N) hr (by decide) tk (a_cons (e_var (i := 0)) (a_cons e_int a_nil)) (argN_cons (argN_cons argN_nil)))) (a_cons (e_bin o_add e_int (e_callS (ok__law_draw N) hr (by decide) tk (a_cons (e_var (i := 0)) (a_cons e_int a_nil)) (argN_cons (argN_cons argN_nil)))) a_nil))) (e_ty b_int rfl N.f_int bt_int (a_cons (e_cmp (o_eq hr.units) (e_callS (ok__law_draw N) hr (by decide) tk (a_cons (e_var (i := 0)) (a_cons e_int a_nil)) (argN_cons (argN_cons argN_nil))) e_int (nomark _)) a_nil))))))
theorem Mx__law_end : ∃ f : List D → S → R D, f = pureRun (fnM 2 2 b__law_end) := ⟨_, rfl⟩
noncomputable def M__law_end : List D → S → R D := Classical.choose Mx__law_end
theorem Me__law_end : M__law_end = pureRun (fnM 2 2 b__law_end) := Classical.choose_spec Mx__law_end
theorem ok__law_end (N : Nm K mg) : DefOk P w K mg base "_law_end" 4 2 M__law_end := by rw [Me__law_end]; exact (raw__law_end N).alone
theorem end_w {g w : GH} {l : Int} {Q : D → S → Prop} (hw : WA w) (h : ∀ (o : Option Nat) (w' : GH), (∀ k, o = some k → 1 ≤ k ∧ k ≤ 60) → WA w' → Q (.p (eO o)) ⟨g, w'⟩) : Gets (M__law_end [.well 0, .p (.int l)] ⟨g, w⟩) Q := by
  rw [Me__law_end]; refine pure_gets rfl ?_
  simp only [b__law_end, mVar, mK, mBin, mUn, mTru, mTest, mAnd, mOr, mNot, mAndV, mOrV, mNotV, mIf, mNil, mCons, mTup, mLst, mLstF, mCall, mChain, mIsi, fIsi, tyD, tyP, mSlice, oNo, oSome, mSeq, srcOf, mRange1, mRange2, sNext, sSeq, sIf, sRet, sRetN, sExpr, sSet, sAsg, sAug, sFor, sRaise, gSet, gMore, gNone, Mp.gTup, mMeth, fAppend, mEnum, srcEnum, mDNew, fLen, fInt, truth, ptruth, asB, pp1, pp2, ret1, dIs, isN, allP, frzD, mFrz, List.map_cons, List.map_nil, List.cons_append, List.nil_append, List.length_cons, List.length_nil, List.getElem?_cons_zero, List.getElem?_cons_succ, List.getElem?_nil, List.set_cons_zero, List.set_cons_succ, if_true, ite_true, Nat.reduceAdd, Nat.reduceSub, List.replicate, Bool.false_eq_true, if_false, Bool.not_true, Bool.not_false, mp_ft, mp_tf, isTy, beq_self_eq_true, isi0, isi1, isi2, isi3, isi4, isi5, isi6, isi7, isi8, isi9, isi10, isi11, isi12, isi13, isi14, isi15, isi16, isi17, isi18, isi19, isi20, isi21, isi22, isi23, isi24, isi25, isi26, isi27, isi28, isi29, isi30, isi31, isi32, isi33, isi34, isi35, isi36, isi37, isi38, isi39, isi40, isi41, onlyF, dIx_tup, dIx_lst, dIx_ref, ixAt_0, ixAt_1, ixAt_2, ixAt_3, iEq_int, iNe_int, dAdd, iAdd, iSub, iNeg, iCmp, iLe, iLt, iGe, iGt, dMul, iMulT, iMul, iMod, iDiv, gIx, setIx, decide_true, decide_false, decide_eq_true_eq, Bool.not_eq_true, List.length_map, gets_ok, gets_bind, gets_ite, rsw_ite, rsw_seq, rsw_thn, rsw_nx, rsw_ret, rst_x, rsx_seq, rsx_nx, rsx_ret, rsx_brk, rsx_cont, rsx_ite, rsx_thn, gets_fnM, onlyP, Option.map_some, Src.items]
  refine draw_w hw (by decide) (by decide) fun a w1 ha hw1 => ?_
  simp only [mVar, mK, mBin, mUn, mTru, mTest, mAnd, mOr, mNot, mAndV, mOrV, mNotV, mIf, mNil, mCons, mTup, mLst, mLstF, mCall, mChain, mIsi, fIsi, tyD, tyP, mSlice, oNo, oSome, mSeq, srcOf, mRange1, mRange2, sNext, sSeq, sIf, sRet, sRetN, sExpr, sSet, sAsg, sAug, sFor, sRaise, gSet, gMore, gNone, Mp.gTup, mMeth, fAppend, mEnum, srcEnum, mDNew, fLen, fInt, truth, ptruth, asB, pp1, pp2, ret1, dIs, isN, allP, frzD, mFrz, List.map_cons, List.map_nil, List.cons_append, List.nil_append, List.length_cons, List.length_nil, List.getElem?_cons_zero, List.getElem?_cons_succ, List.getElem?_nil, List.set_cons_zero, List.set_cons_succ, if_true, ite_true, Nat.reduceAdd, Nat.reduceSub, List.replicate, Bool.false_eq_true, if_false, Bool.not_true, Bool.not_false, mp_ft, mp_tf, isTy, beq_self_eq_true, isi0, isi1, isi2, isi3, isi4, isi5, isi6, isi7, isi8, isi9, isi10, isi11, isi12, isi13, isi14, isi15, isi16, isi17, isi18, isi19, isi20, isi21, isi22, isi23, isi24, isi25, isi26, isi27, isi28, isi29, isi30, isi31, isi32, isi33, isi34, isi35, isi36, isi37, isi38, isi39, isi40, isi41, onlyF, dIx_tup, dIx_lst, dIx_ref, ixAt_0, ixAt_1, ixAt_2, ixAt_3, iEq_int, iNe_int, dAdd, iAdd, iSub, iNeg, iCmp, iLe, iLt, iGe, iGt, dMul, iMulT, iMul, iMod, iDiv, gIx, setIx, decide_true, decide_false, decide_eq_true_eq, Bool.not_eq_true, List.length_map, gets_ok, gets_bind, gets_ite, rsw_ite, rsw_seq, rsw_thn, rsw_nx, rsw_ret, rst_x, rsx_seq, rsx_nx, rsx_ret, rsx_brk, rsx_cont, rsx_ite, rsx_thn, gets_fnM, onlyP, Option.map_some, Src.items]
  by_cases hl : (a : Int) < l
  · simp only [hl, mVar, mK, mBin, mUn, mTru, mTest, mAnd, mOr, mNot, mAndV, mOrV, mNotV, mIf, mNil, mCons, mTup, mLst, mLstF, mCall, mChain, mIsi, fIsi, tyD, tyP, mSlice, oNo, oSome, mSeq, srcOf, mRange1, mRange2, sNext, sSeq, sIf, sRet, sRetN, sExpr, sSet, sAsg, sAug, sFor, sRaise, gSet, gMore, gNone, Mp.gTup, mMeth, fAppend, mEnum, srcEnum, mDNew, fLen, fInt, truth, ptruth, asB, pp1, pp2, ret1, dIs, isN, allP, frzD, mFrz, List.map_cons, List.map_nil, List.cons_append, List.nil_append, List.length_cons, List.length_nil, List.getElem?_cons_zero, List.getElem?_cons_succ, List.getElem?_nil, List.set_cons_zero, List.set_cons_succ, if_true, ite_true, Nat.reduceAdd, Nat.reduceSub, List.replicate, Bool.false_eq_true, if_false, Bool.not_true, Bool.not_false, mp_ft, mp_tf, isTy, beq_self_eq_true, isi0, isi1, isi2, isi3, isi4, isi5, isi6, isi7, isi8, isi9, isi10, isi11, isi12, isi13, isi14, isi15, isi16, isi17, isi18, isi19, isi20, isi21, isi22, isi23, isi24, isi25, isi26, isi27, isi28, isi29, isi30, isi31, isi32, isi33, isi34, isi35, isi36, isi37, isi38, isi39, isi40, isi41, onlyF, dIx_tup, dIx_lst, dIx_ref, ixAt_0, ixAt_1, ixAt_2, ixAt_3, iEq_int, iNe_int, dAdd, iAdd, iSub, iNeg, iCmp, iLe, iLt, iGe, iGt, dMul, iMulT, iMul, iMod, iDiv, gIx, setIx, decide_true, decide_false, decide_eq_true_eq, Bool.not_eq_true, List.length_map, gets_ok, gets_bind, gets_ite, rsw_ite, rsw_seq, rsw_thn, rsw_nx, rsw_ret, rst_x, rsx_seq, rsx_nx, rsx_ret, rsx_brk, rsx_cont, rsx_ite, rsx_thn, gets_fnM, onlyP, Option.map_some, Src.items]
    exact ⟨_, rfl, h none w1 (fun p e => by cases e) hw1⟩
  · simp only [hl, mVar, mK, mBin, mUn, mTru, mTest, mAnd, mOr, mNot, mAndV, mOrV, mNotV, mIf, mNil, mCons, mTup, mLst, mLstF, mCall, mChain, mIsi, fIsi, tyD, tyP, mSlice, oNo, oSome, mSeq, srcOf, mRange1, mRange2, sNext, sSeq, sIf, sRet, sRetN, sExpr, sSet, sAsg, sAug, sFor, sRaise, gSet, gMore, gNone, Mp.gTup, mMeth, fAppend, mEnum, srcEnum, mDNew, fLen, fInt, truth, ptruth, asB, pp1, pp2, ret1, dIs, isN, allP, frzD, mFrz, List.map_cons, List.map_nil, List.cons_append, List.nil_append, List.length_cons, List.length_nil, List.getElem?_cons_zero, List.getElem?_cons_succ, List.getElem?_nil, List.set_cons_zero, List.set_cons_succ, if_true, ite_true, Nat.reduceAdd, Nat.reduceSub, List.replicate, Bool.false_eq_true, if_false, Bool.not_true, Bool.not_false, mp_ft, mp_tf, isTy, beq_self_eq_true, isi0, isi1, isi2, isi3, isi4, isi5, isi6, isi7, isi8, isi9, isi10, isi11, isi12, isi13, isi14, isi15, isi16, isi17, isi18, isi19, isi20, isi21, isi22, isi23, isi24, isi25, isi26, isi27, isi28, isi29, isi30, isi31, isi32, isi33, isi34, isi35, isi36, isi37, isi38, isi39, isi40, isi41, onlyF, dIx_tup, dIx_lst, dIx_ref, ixAt_0, ixAt_1, ixAt_2, ixAt_3, iEq_int, iNe_int, dAdd, iAdd, iSub, iNeg, iCmp, iLe, iLt, iGe, iGt, dMul, iMulT, iMul, iMod, iDiv, gIx, setIx, decide_true, decide_false, decide_eq_true_eq, Bool.not_eq_true, List.length_map, gets_ok, gets_bind, gets_ite, rsw_ite, rsw_seq, rsw_thn, rsw_nx, rsw_ret, rst_x, rsx_seq, rsx_nx, rsx_ret, rsx_brk, rsx_cont, rsx_ite, rsx_thn, gets_fnM, onlyP, Option.map_some, Src.items]
    refine draw_w hw1 (by decide) (by decide) fun b w2 hb hw2 => ?_
    simp only [mVar, mK, mBin, mUn, mTru, mTest, mAnd, mOr, mNot, mAndV, mOrV, mNotV, mIf, mNil, mCons, mTup, mLst, mLstF, mCall, mChain, mIsi, fIsi, tyD, tyP, mSlice, oNo, oSome, mSeq, srcOf, mRange1, mRange2, sNext, sSeq, sIf, sRet, sRetN, sExpr, sSet, sAsg, sAug, sFor, sRaise, gSet, gMore, gNone, Mp.gTup, mMeth, fAppend, mEnum, srcEnum, mDNew, fLen, fInt, truth, ptruth, asB, pp1, pp2, ret1, dIs, isN, allP, frzD, mFrz, List.map_cons, List.map_nil, List.cons_append, List.nil_append, List.length_cons, List.length_nil, List.getElem?_cons_zero, List.getElem?_cons_succ, List.getElem?_nil, List.set_cons_zero, List.set_cons_succ, if_true, ite_true, Nat.reduceAdd, Nat.reduceSub, List.replicate, Bool.false_eq_true, if_false, Bool.not_true, Bool.not_false, mp_ft, mp_tf, isTy, beq_self_eq_true, isi0, isi1, isi2, isi3, isi4, isi5, isi6, isi7, isi8, isi9, isi10, isi11, isi12, isi13, isi14, isi15, isi16, isi17, isi18, isi19, isi20, isi21, isi22, isi23, isi24, isi25, isi26, isi27, isi28, isi29, isi30, isi31, isi32, isi33, isi34, isi35, isi36, isi37, isi38, isi39, isi40, isi41, onlyF, dIx_tup, dIx_lst, dIx_ref, ixAt_0, ixAt_1, ixAt_2, ixAt_3, iEq_int, iNe_int, dAdd, iAdd, iSub, iNeg, iCmp, iLe, iLt, iGe, iGt, dMul, iMulT, iMul, iMod, iDiv, gIx, setIx, decide_true, decide_false, decide_eq_true_eq, Bool.not_eq_true, List.length_map, gets_ok, gets_bind, gets_ite, rsw_ite, rsw_seq, rsw_thn, rsw_nx, rsw_ret, rst_x, rsx_seq, rsx_nx, rsx_ret, rsx_brk, rsx_cont, rsx_ite, rsx_thn, gets_fnM, onlyP, Option.map_some, Src.items]
    refine draw_w hw2 (by decide) (by decide) fun c w3 hc hw3 => ?_
    have z2 : sizeOk 2 = true := by decide
    simp only [mVar, mK, mBin, mUn, mTru, mTest, mAnd, mOr, mNot, mAndV, mOrV, mNotV, mIf, mNil, mCons, mTup, mLst, mLstF, mCall, mChain, mIsi, fIsi, tyD, tyP, mSlice, oNo, oSome, mSeq, srcOf, mRange1, mRange2, sNext, sSeq, sIf, sRet, sRetN, sExpr, sSet, sAsg, sAug, sFor, sRaise, gSet, gMore, gNone, Mp.gTup, mMeth, fAppend, mEnum, srcEnum, mDNew, fLen, fInt, truth, ptruth, asB, pp1, pp2, ret1, dIs, isN, allP, frzD, mFrz, List.map_cons, List.map_nil, List.cons_append, List.nil_append, List.length_cons, List.length_nil, List.getElem?_cons_zero, List.getElem?_cons_succ, List.getElem?_nil, List.set_cons_zero, List.set_cons_succ, if_true, ite_true, Nat.reduceAdd, Nat.reduceSub, List.replicate, Bool.false_eq_true, if_false, Bool.not_true, Bool.not_false, mp_ft, mp_tf, isTy, beq_self_eq_true, isi0, isi1, isi2, isi3, isi4, isi5, isi6, isi7, isi8, isi9, isi10, isi11, isi12, isi13, isi14, isi15, isi16, isi17, isi18, isi19, isi20, isi21, isi22, isi23, isi24, isi25, isi26, isi27, isi28, isi29, isi30, isi31, isi32, isi33, isi34, isi35, isi36, isi37, isi38, isi39, isi40, isi41, onlyF, dIx_tup, dIx_lst, dIx_ref, ixAt_0, ixAt_1, ixAt_2, ixAt_3, iEq_int, iNe_int, dAdd, iAdd, iSub, iNeg, iCmp, iLe, iLt, iGe, iGt, dMul, iMulT, iMul, iMod, iDiv, gIx, setIx, decide_true, decide_false, decide_eq_true_eq, Bool.not_eq_true, List.length_map, gets_ok, gets_bind, gets_ite, rsw_ite, rsw_seq, rsw_thn, rsw_nx, rsw_ret, rst_x, rsx_seq, rsx_nx, rsx_ret, rsx_brk, rsx_cont, rsx_ite, rsx_thn, gets_fnM, onlyP, Option.map_some, Src.items, z2]
    refine draw_w hw3 (by decide) (by decide) fun r w4 hr hw4 => ?_
    simp only [mVar, mK, mBin, mUn, mTru, mTest, mAnd, mOr, mNot, mAndV, mOrV, mNotV, mIf, mNil, mCons, mTup, mLst, mLstF, mCall, mChain, mIsi, fIsi, tyD, tyP, mSlice, oNo, oSome, mSeq, srcOf, mRange1, mRange2, sNext, sSeq, sIf, sRet, sRetN, sExpr, sSet, sAsg, sAug, sFor, sRaise, gSet, gMore, gNone, Mp.gTup, mMeth, fAppend, mEnum, srcEnum, mDNew, fLen, fInt, truth, ptruth, asB, pp1, pp2, ret1, dIs, isN, allP, frzD, mFrz, List.map_cons, List.map_nil, List.cons_append, List.nil_append, List.length_cons, List.length_nil, List.getElem?_cons_zero, List.getElem?_cons_succ, List.getElem?_nil, List.set_cons_zero, List.set_cons_succ, if_true, ite_true, Nat.reduceAdd, Nat.reduceSub, List.replicate, Bool.false_eq_true, if_false, Bool.not_true, Bool.not_false, mp_ft, mp_tf, isTy, beq_self_eq_true, isi0, isi1, isi2, isi3, isi4, isi5, isi6, isi7, isi8, isi9, isi10, isi11, isi12, isi13, isi14, isi15, isi16, isi17, isi18, isi19, isi20, isi21, isi22, isi23, isi24, isi25, isi26, isi27, isi28, isi29, isi30, isi31, isi32, isi33, isi34, isi35, isi36, isi37, isi38, isi39, isi40, isi41, onlyF, dIx_tup, dIx_lst, dIx_ref, ixAt_0, ixAt_1, ixAt_2, ixAt_3, iEq_int, iNe_int, dAdd, iAdd, iSub, iNeg, iCmp, iLe, iLt, iGe, iGt, dMul, iMulT, iMul, iMod, iDiv, gIx, setIx, decide_true, decide_false, decide_eq_true_eq, Bool.not_eq_true, List.length_map, gets_ok, gets_bind, gets_ite, rsw_ite, rsw_seq, rsw_thn, rsw_nx, rsw_ret, rst_x, rsx_seq, rsx_nx, rsx_ret, rsx_brk, rsx_cont, rsx_ite, rsx_thn, gets_fnM, onlyP, Option.map_some, Src.items]
    have k1 := h (some (1 + b)) w4 (fun k e => by cases e; omega) hw4
    have k2 := h (some (1 + c)) w4 (fun k e => by cases e; omega) hw4
    simp only [eO] at k1 k2
    by_cases hr0 : (r : Int) = 0
    · simp only [hr0, mVar, mK, mBin, mUn, mTru, mTest, mAnd, mOr, mNot, mAndV, mOrV, mNotV, mIf, mNil, mCons, mTup, mLst, mLstF, mCall, mChain, mIsi, fIsi, tyD, tyP, mSlice, oNo, oSome, mSeq, srcOf, mRange1, mRange2, sNext, sSeq, sIf, sRet, sRetN, sExpr, sSet, sAsg, sAug, sFor, sRaise, gSet, gMore, gNone, Mp.gTup, mMeth, fAppend, mEnum, srcEnum, mDNew, fLen, fInt, truth, ptruth, asB, pp1, pp2, ret1, dIs, isN, allP, frzD, mFrz, List.map_cons, List.map_nil, List.cons_append, List.nil_append, List.length_cons, List.length_nil, List.getElem?_cons_zero, List.getElem?_cons_succ, List.getElem?_nil, List.set_cons_zero, List.set_cons_succ, if_true, ite_true, Nat.reduceAdd, Nat.reduceSub, List.replicate, Bool.false_eq_true, if_false, Bool.not_true, Bool.not_false, mp_ft, mp_tf, isTy, beq_self_eq_true, isi0, isi1, isi2, isi3, isi4, isi5, isi6, isi7, isi8, isi9, isi10, isi11, isi12, isi13, isi14, isi15, isi16, isi17, isi18, isi19, isi20, isi21, isi22, isi23, isi24, isi25, isi26, isi27, isi28, isi29, isi30, isi31, isi32, isi33, isi34, isi35, isi36, isi37, isi38, isi39, isi40, isi41, onlyF, dIx_tup, dIx_lst, dIx_ref, ixAt_0, ixAt_1, ixAt_2, ixAt_3, iEq_int, iNe_int, dAdd, iAdd, iSub, iNeg, iCmp, iLe, iLt, iGe, iGt, dMul, iMulT, iMul, iMod, iDiv, gIx, setIx, decide_true, decide_false, decide_eq_true_eq, Bool.not_eq_true, List.length_map, gets_ok, gets_bind, gets_ite, rsw_ite, rsw_seq, rsw_thn, rsw_nx, rsw_ret, rst_x, rsx_seq, rsx_nx, rsx_ret, rsx_brk, rsx_cont, rsx_ite, rsx_thn, gets_fnM, onlyP, Option.map_some, Src.items, natAdd1]
      exact ⟨_, rfl, k2⟩
    · simp only [hr0, mVar, mK, mBin, mUn, mTru, mTest, mAnd, mOr, mNot, mAndV, mOrV, mNotV, mIf, mNil, mCons, mTup, mLst, mLstF, mCall, mChain, mIsi, fIsi, tyD, tyP, mSlice, oNo, oSome, mSeq, srcOf, mRange1, mRange2, sNext, sSeq, sIf, sRet, sRetN, sExpr, sSet, sAsg, sAug, sFor, sRaise, gSet, gMore, gNone, Mp.gTup, mMeth, fAppend, mEnum, srcEnum, mDNew, fLen, fInt, truth, ptruth, asB, pp1, pp2, ret1, dIs, isN, allP, frzD, mFrz, List.map_cons, List.map_nil, List.cons_append, List.nil_append, List.length_cons, List.length_nil, List.getElem?_cons_zero, List.getElem?_cons_succ, List.getElem?_nil, List.set_cons_zero, List.set_cons_succ, if_true, ite_true, Nat.reduceAdd, Nat.reduceSub, List.replicate, Bool.false_eq_true, if_false, Bool.not_true, Bool.not_false, mp_ft, mp_tf, isTy, beq_self_eq_true, isi0, isi1, isi2, isi3, isi4, isi5, isi6, isi7, isi8, isi9, isi10, isi11, isi12, isi13, isi14, isi15, isi16, isi17, isi18, isi19, isi20, isi21, isi22, isi23, isi24, isi25, isi26, isi27, isi28, isi29, isi30, isi31, isi32, isi33, isi34, isi35, isi36, isi37, isi38, isi39, isi40, isi41, onlyF, dIx_tup, dIx_lst, dIx_ref, ixAt_0, ixAt_1, ixAt_2, ixAt_3, iEq_int, iNe_int, dAdd, iAdd, iSub, iNeg, iCmp, iLe, iLt, iGe, iGt, dMul, iMulT, iMul, iMod, iDiv, gIx, setIx, decide_true, decide_false, decide_eq_true_eq, Bool.not_eq_true, List.length_map, gets_ok, gets_bind, gets_ite, rsw_ite, rsw_seq, rsw_thn, rsw_nx, rsw_ret, rst_x, rsx_seq, rsx_nx, rsx_ret, rsx_brk, rsx_cont, rsx_ite, rsx_thn, gets_fnM, onlyP, Option.map_some, Src.items, natAdd1]
      exact ⟨_, rfl, k1⟩

/-! _law_machine -/
theorem sc__law_machine : FnScope ["_law_well_here", "_law_size", "_law_few", "_law_states", "_law_lack", "_law_dull", "_law_rows", "_law_state", "_law_letter"] ["_law_well_here"] (defScope t__law_machine) := ⟨rfl, rfl, rfl, by decide +kernel, rfl, by decide +kernel, by decide +kernel⟩
theorem bn__law_machine : BindN "_law_machine" t__law_machine ["_law_well_here"] := fun _ _ _ _ _ _ us hl => match us, hl with | [_], _ => rfl
noncomputable def b__law_machine : MS := (sSeq (sSet 1 (mBin dIx (mLstF (mCons (mK (.int 1)) (mCons (mK (.int 2)) (mCons (mK (.int 2)) (mCons (mK (.int 3)) (mCons (mBin dAdd (mK (.int 1)) (mCall M__law_draw (mCons (mVar 0) (mCons (mK (.int 8)) mNil)))) mNil)))))) (mCall M__law_draw (mCons (mVar 0) (mCons (mK (.int 5)) mNil))))) (sSeq (sSet 2 (mLstF (mCons (mBin dAdd (mK (.int 1)) (mCall M__law_draw (mCons (mVar 0) (mCons (mK (.int 3)) mNil)))) (mCons (mBin dAdd (mK (.int 1)) (mCall M__law_draw (mCons (mVar 0) (mCons (mK (.int 7)) mNil)))) (mCons (mBin (pp2 iSub) (mK (.int 30)) (mCall M__law_draw (mCons (mVar 0) (mCons (mK (.int 3)) mNil)))) mNil))))) (sSeq (sSet 3 (mBin dIx (mVar 2) (mBin dIx (mLstF (mCons (mK (.int 0)) (mCons (mK (.int 0)) (mCons (mK (.int 0)) (mCons (mK (.int 1)) (mCons (mK (.int 1)) (mCons (mK (.int 1)) (mCons (mK (.int 1)) (mCons (mK (.int 2)) mNil))))))))) (mCall M__law_draw (mCons (mVar 0) (mCons (mK (.int 8)) mNil)))))) (sSeq (sSet 4 (mCall M__law_draw (mCons (mVar 0) (mCons (mK (.int 5)) mNil)))) (sSeq (sSet 5 (mBin dAdd (mK (.int 1)) (mCall M__law_draw (mCons (mVar 0) (mCons (mK (.int 5)) mNil))))) (sSeq (sSet 6 (mLst mNil)) (sSeq (sFor (mRange1 (mVar 3)) (gSet 7) (sExpr (mMeth "list" fAppend (mVar 6) (mCons (mTup (mCons (mCall M__law_end (mCons (mVar 0) (mCons (mVar 5) mNil))) (mCons (mCall fTuple (mCons (mLc (mRange1 (mVar 1)) [8] (gSet 8) mYes (mCall M__law_step (mCons (mVar 0) (mCons (mVar 3) (mCons (mVar 4) mNil)))) kFrz) mNil)) mNil))) mNil)))) (sRet (mTup (mCons (mVar 1) (mCons (mCall fTuple (mCons (mVar 6) mNil)) mNil)))))))))))
theorem raw__law_machine (N : Nm K mg) : DefOk P w K mg base "_law_machine" 6 1 (fnM 1 9 b__law_machine) := def_mk N.d__law_machine sc__law_machine bn__law_machine rfl rfl fun f cdv A outer s H E hr nd tk hp => (ss_cons (s_set (i := 1) nd (e_ix (e_lstF (a_cons e_int (a_cons e_int (a_cons e_int (a_cons e_int (a_cons (e_bin o_add e_int (e_callS (ok__law_draw N) hr (by decide) tk (a_cons (e_var (i := 0)) (a_cons e_int a_nil)) (argN_cons (argN_cons argN_nil)))) a_nil)))))) (e_callS (ok__law_draw N) hr (by decide) tk (a_cons (e_var (i := 0)) (a_cons e_int a_nil)) (argN_cons (argN_cons argN_nil))))) (ss_cons (s_set (i := 2) nd (e_lstF (a_cons (e_bin o_add e_int (e_callS (ok__law_draw N) hr (by decide) tk (a_cons (e_var (i := 0)) (a_cons e_int a_nil)) (argN_cons (argN_cons argN_nil)))) (a_cons (e_bin o_add e_int (e_callS (ok__law_draw N) hr (by decide) tk (a_cons (e_var (i := 0)) (a_cons e_int a_nil)) (argN_cons (argN_cons argN_nil)))) (a_cons (e_bin o_sub e_int (e_callS (ok__law_draw N) hr (by decide) tk (a_cons (e_var (i := 0)) (a_cons e_int a_nil)) (argN_cons (argN_cons argN_nil)))) a_nil))))) (ss_cons (s_set (i := 3) nd (e_ix (e_var (i := 2)) (e_ix (e_lstF (a_cons e_int (a_cons e_int (a_cons e_int (a_cons e_int (a_cons e_int (a_cons e_int (a_cons e_int (a_cons e_int a_nil))))))))) (e_callS (ok__law_draw N) hr (by decide) tk (a_cons (e_var (i := 0)) (a_cons e_int a_nil)) (argN_cons (argN_cons argN_nil)))))) (ss_cons (s_set (i := 4) nd (e_callS (ok__law_draw N) hr (by decide) tk (a_cons (e_var (i := 0)) (a_cons e_int a_nil)) (argN_cons (argN_cons argN_nil)))) (ss_cons (s_set (i := 5) nd (e_bin o_add e_int (e_callS (ok__law_draw N) hr (by decide) tk (a_cons (e_var (i := 0)) (a_cons e_int a_nil)) (argN_cons (argN_cons argN_nil))))) (ss_cons (s_set (i := 6) nd (e_lst a_nil)) (ss_cons (s_for hp rfl (i_range1 rfl N.f_range (e_var (i := 3))) (g_name (i := 7) nd) (ss_one (s_expr (e_append (e_var (i := 6)) (a_cons (e_tup (a_cons (e_callS (ok__law_end N) hr (by decide) tk (a_cons (e_var (i := 0)) (a_cons (e_var (i := 5)) a_nil)) (argN_cons (argN_cons argN_nil))) (a_cons (e_ty b_tuple rfl N.f_tuple bt_tuple (a_cons (e_lcF (own := [("_law_letter", 8)]) rfl nd (i_range1 rfl N.f_range (e_var (i := 1))) (blkOk_by (N := ["_law_well_here", "_law_size", "_law_few", "_law_states", "_law_lack", "_law_dull", "_law_rows", "_law_state", "_law_letter"]) (sc := defScope t__law_machine) (own := [("_law_letter", 8)]) (by decide +kernel)) (tg_name (i := 8) (by decide)) (fun _ _ _ _ _ => pg_name (i := 8) nd rfl (by first | exact Or.inl rfl | exact Or.inr rfl)) (fun _ _ _ _ _ => c_no) (fun _ _ _ _ _ => (e_callS (ok__law_step N) hr (by decide) takes0 (a_cons (e_var (i := 0)) (a_cons (e_var (i := 3)) (a_cons (e_var (i := 4)) a_nil))) (argN_cons (argN_cons (argN_cons argN_nil)))))) a_nil)) a_nil))) a_nil))))) (ss_one (s_ret (e_tup (a_cons (e_var (i := 1)) (a_cons (e_ty b_tuple rfl N.f_tuple bt_tuple (a_cons (e_var (i := 6)) a_nil)) a_nil))))))))))))
theorem Mx__law_machine : ∃ f : List D → S → R D, f = pureRun (fnM 1 9 b__law_machine) := ⟨_, rfl⟩
noncomputable def M__law_machine : List D → S → R D := Classical.choose Mx__law_machine
theorem Me__law_machine : M__law_machine = pureRun (fnM 1 9 b__law_machine) := Classical.choose_spec Mx__law_machine
theorem ok__law_machine (N : Nm K mg) : DefOk P w K mg base "_law_machine" 6 1 M__law_machine := by rw [Me__law_machine]; exact (raw__law_machine N).alone
theorem mach_w {g w : GH} {Q : D → S → Prop} (hw : WA w) (h : ∀ (m : Mac) (w' : GH), m.Ok → WA w' → Q (.p (eM m)) ⟨g, w'⟩) : Gets (M__law_machine [.well 0] ⟨g, w⟩) Q := by
  rw [Me__law_machine]; refine pure_gets rfl ?_
  have z0 : sizeOk 0 = true := by decide
  have z3 : sizeOk 3 = true := by decide
  have z5 : sizeOk 5 = true := by decide
  have z8 : sizeOk 8 = true := by decide
  have z2 : sizeOk 2 = true := by decide
  simp only [b__law_machine, mVar, mK, mBin, mUn, mTru, mTest, mAnd, mOr, mNot, mAndV, mOrV, mNotV, mIf, mNil, mCons, mTup, mLst, mLstF, mCall, mChain, mIsi, fIsi, tyD, tyP, mSlice, oNo, oSome, mSeq, srcOf, mRange1, mRange2, sNext, sSeq, sIf, sRet, sRetN, sExpr, sSet, sAsg, sAug, sFor, sRaise, gSet, gMore, gNone, Mp.gTup, mMeth, fAppend, mEnum, srcEnum, mDNew, fLen, fInt, truth, ptruth, asB, pp1, pp2, ret1, dIs, isN, allP, frzD, mFrz, List.map_cons, List.map_nil, List.cons_append, List.nil_append, List.length_cons, List.length_nil, List.getElem?_cons_zero, List.getElem?_cons_succ, List.getElem?_nil, List.set_cons_zero, List.set_cons_succ, if_true, ite_true, Nat.reduceAdd, Nat.reduceSub, List.replicate, Bool.false_eq_true, if_false, Bool.not_true, Bool.not_false, mp_ft, mp_tf, isTy, beq_self_eq_true, isi0, isi1, isi2, isi3, isi4, isi5, isi6, isi7, isi8, isi9, isi10, isi11, isi12, isi13, isi14, isi15, isi16, isi17, isi18, isi19, isi20, isi21, isi22, isi23, isi24, isi25, isi26, isi27, isi28, isi29, isi30, isi31, isi32, isi33, isi34, isi35, isi36, isi37, isi38, isi39, isi40, isi41, onlyF, dIx_tup, dIx_lst, dIx_ref, ixAt_0, ixAt_1, ixAt_2, ixAt_3, iEq_int, iNe_int, dAdd, iAdd, iSub, iNeg, iCmp, iLe, iLt, iGe, iGt, dMul, iMulT, iMul, iMod, iDiv, gIx, setIx, decide_true, decide_false, decide_eq_true_eq, Bool.not_eq_true, List.length_map, gets_ok, gets_bind, gets_ite, rsw_ite, rsw_seq, rsw_thn, rsw_nx, rsw_ret, rst_x, rsx_seq, rsx_nx, rsx_ret, rsx_brk, rsx_cont, rsx_ite, rsx_thn, gets_fnM, onlyP, Option.map_some, Src.items]
  refine draw_w hw (by decide) (by decide) fun a w1 ha hw1 => ?_
  simp only [mVar, mK, mBin, mUn, mTru, mTest, mAnd, mOr, mNot, mAndV, mOrV, mNotV, mIf, mNil, mCons, mTup, mLst, mLstF, mCall, mChain, mIsi, fIsi, tyD, tyP, mSlice, oNo, oSome, mSeq, srcOf, mRange1, mRange2, sNext, sSeq, sIf, sRet, sRetN, sExpr, sSet, sAsg, sAug, sFor, sRaise, gSet, gMore, gNone, Mp.gTup, mMeth, fAppend, mEnum, srcEnum, mDNew, fLen, fInt, truth, ptruth, asB, pp1, pp2, ret1, dIs, isN, allP, frzD, mFrz, List.map_cons, List.map_nil, List.cons_append, List.nil_append, List.length_cons, List.length_nil, List.getElem?_cons_zero, List.getElem?_cons_succ, List.getElem?_nil, List.set_cons_zero, List.set_cons_succ, if_true, ite_true, Nat.reduceAdd, Nat.reduceSub, List.replicate, Bool.false_eq_true, if_false, Bool.not_true, Bool.not_false, mp_ft, mp_tf, isTy, beq_self_eq_true, isi0, isi1, isi2, isi3, isi4, isi5, isi6, isi7, isi8, isi9, isi10, isi11, isi12, isi13, isi14, isi15, isi16, isi17, isi18, isi19, isi20, isi21, isi22, isi23, isi24, isi25, isi26, isi27, isi28, isi29, isi30, isi31, isi32, isi33, isi34, isi35, isi36, isi37, isi38, isi39, isi40, isi41, onlyF, dIx_tup, dIx_lst, dIx_ref, ixAt_0, ixAt_1, ixAt_2, ixAt_3, iEq_int, iNe_int, dAdd, iAdd, iSub, iNeg, iCmp, iLe, iLt, iGe, iGt, dMul, iMulT, iMul, iMod, iDiv, gIx, setIx, decide_true, decide_false, decide_eq_true_eq, Bool.not_eq_true, List.length_map, gets_ok, gets_bind, gets_ite, rsw_ite, rsw_seq, rsw_thn, rsw_nx, rsw_ret, rst_x, rsx_seq, rsx_nx, rsx_ret, rsx_brk, rsx_cont, rsx_ite, rsx_thn, gets_fnM, onlyP, Option.map_some, Src.items, z5]
  refine draw_w hw1 (by decide) (by decide) fun b w2 hb hw2 => ?_
  simp only [mVar, mK, mBin, mUn, mTru, mTest, mAnd, mOr, mNot, mAndV, mOrV, mNotV, mIf, mNil, mCons, mTup, mLst, mLstF, mCall, mChain, mIsi, fIsi, tyD, tyP, mSlice, oNo, oSome, mSeq, srcOf, mRange1, mRange2, sNext, sSeq, sIf, sRet, sRetN, sExpr, sSet, sAsg, sAug, sFor, sRaise, gSet, gMore, gNone, Mp.gTup, mMeth, fAppend, mEnum, srcEnum, mDNew, fLen, fInt, truth, ptruth, asB, pp1, pp2, ret1, dIs, isN, allP, frzD, mFrz, List.map_cons, List.map_nil, List.cons_append, List.nil_append, List.length_cons, List.length_nil, List.getElem?_cons_zero, List.getElem?_cons_succ, List.getElem?_nil, List.set_cons_zero, List.set_cons_succ, if_true, ite_true, Nat.reduceAdd, Nat.reduceSub, List.replicate, Bool.false_eq_true, if_false, Bool.not_true, Bool.not_false, mp_ft, mp_tf, isTy, beq_self_eq_true, isi0, isi1, isi2, isi3, isi4, isi5, isi6, isi7, isi8, isi9, isi10, isi11, isi12, isi13, isi14, isi15, isi16, isi17, isi18, isi19, isi20, isi21, isi22, isi23, isi24, isi25, isi26, isi27, isi28, isi29, isi30, isi31, isi32, isi33, isi34, isi35, isi36, isi37, isi38, isi39, isi40, isi41, onlyF, dIx_tup, dIx_lst, dIx_ref, ixAt_0, ixAt_1, ixAt_2, ixAt_3, iEq_int, iNe_int, dAdd, iAdd, iSub, iNeg, iCmp, iLe, iLt, iGe, iGt, dMul, iMulT, iMul, iMod, iDiv, gIx, setIx, decide_true, decide_false, decide_eq_true_eq, Bool.not_eq_true, List.length_map, gets_ok, gets_bind, gets_ite, rsw_ite, rsw_seq, rsw_thn, rsw_nx, rsw_ret, rst_x, rsx_seq, rsx_nx, rsx_ret, rsx_brk, rsx_cont, rsx_ite, rsx_thn, gets_fnM, onlyP, Option.map_some, Src.items]
  have hn : ∃ n : Nat, 1 ≤ n ∧ n ≤ 8 ∧ ixAt [PyData.int 1, .int 2, .int 2, .int 3, .int (1 + a)] (b : Int) = some (.int n) := by
    obtain ⟨x, hx, e⟩ := ixAt_mem (xs := [PyData.int 1, .int 2, .int 2, .int 3, .int (1 + a)]) (i := (b : Int)) (by omega) (by simp; omega)
    simp at hx
    rcases hx with rfl | rfl | rfl | rfl
    · exact ⟨1, by omega, by omega, e⟩
    · exact ⟨2, by omega, by omega, e⟩
    · exact ⟨3, by omega, by omega, e⟩
    · exact ⟨1 + a, by omega, by omega, by rw [e]; simp⟩
  obtain ⟨n, hn1, hn8, e⟩ := hn
  simp only [mVar, mK, mBin, mUn, mTru, mTest, mAnd, mOr, mNot, mAndV, mOrV, mNotV, mIf, mNil, mCons, mTup, mLst, mLstF, mCall, mChain, mIsi, fIsi, tyD, tyP, mSlice, oNo, oSome, mSeq, srcOf, mRange1, mRange2, sNext, sSeq, sIf, sRet, sRetN, sExpr, sSet, sAsg, sAug, sFor, sRaise, gSet, gMore, gNone, Mp.gTup, mMeth, fAppend, mEnum, srcEnum, mDNew, fLen, fInt, truth, ptruth, asB, pp1, pp2, ret1, dIs, isN, allP, frzD, mFrz, List.map_cons, List.map_nil, List.cons_append, List.nil_append, List.length_cons, List.length_nil, List.getElem?_cons_zero, List.getElem?_cons_succ, List.getElem?_nil, List.set_cons_zero, List.set_cons_succ, if_true, ite_true, Nat.reduceAdd, Nat.reduceSub, List.replicate, Bool.false_eq_true, if_false, Bool.not_true, Bool.not_false, mp_ft, mp_tf, isTy, beq_self_eq_true, isi0, isi1, isi2, isi3, isi4, isi5, isi6, isi7, isi8, isi9, isi10, isi11, isi12, isi13, isi14, isi15, isi16, isi17, isi18, isi19, isi20, isi21, isi22, isi23, isi24, isi25, isi26, isi27, isi28, isi29, isi30, isi31, isi32, isi33, isi34, isi35, isi36, isi37, isi38, isi39, isi40, isi41, onlyF, dIx_tup, dIx_lst, dIx_ref, ixAt_0, ixAt_1, ixAt_2, ixAt_3, iEq_int, iNe_int, dAdd, iAdd, iSub, iNeg, iCmp, iLe, iLt, iGe, iGt, dMul, iMulT, iMul, iMod, iDiv, gIx, setIx, decide_true, decide_false, decide_eq_true_eq, Bool.not_eq_true, List.length_map, gets_ok, gets_bind, gets_ite, rsw_ite, rsw_seq, rsw_thn, rsw_nx, rsw_ret, rst_x, rsx_seq, rsx_nx, rsx_ret, rsx_brk, rsx_cont, rsx_ite, rsx_thn, gets_fnM, onlyP, Option.map_some, Src.items, e]
  refine draw_w hw2 (by decide) (by decide) fun c w3 hc hw3 => ?_
  simp only [mVar, mK, mBin, mUn, mTru, mTest, mAnd, mOr, mNot, mAndV, mOrV, mNotV, mIf, mNil, mCons, mTup, mLst, mLstF, mCall, mChain, mIsi, fIsi, tyD, tyP, mSlice, oNo, oSome, mSeq, srcOf, mRange1, mRange2, sNext, sSeq, sIf, sRet, sRetN, sExpr, sSet, sAsg, sAug, sFor, sRaise, gSet, gMore, gNone, Mp.gTup, mMeth, fAppend, mEnum, srcEnum, mDNew, fLen, fInt, truth, ptruth, asB, pp1, pp2, ret1, dIs, isN, allP, frzD, mFrz, List.map_cons, List.map_nil, List.cons_append, List.nil_append, List.length_cons, List.length_nil, List.getElem?_cons_zero, List.getElem?_cons_succ, List.getElem?_nil, List.set_cons_zero, List.set_cons_succ, if_true, ite_true, Nat.reduceAdd, Nat.reduceSub, List.replicate, Bool.false_eq_true, if_false, Bool.not_true, Bool.not_false, mp_ft, mp_tf, isTy, beq_self_eq_true, isi0, isi1, isi2, isi3, isi4, isi5, isi6, isi7, isi8, isi9, isi10, isi11, isi12, isi13, isi14, isi15, isi16, isi17, isi18, isi19, isi20, isi21, isi22, isi23, isi24, isi25, isi26, isi27, isi28, isi29, isi30, isi31, isi32, isi33, isi34, isi35, isi36, isi37, isi38, isi39, isi40, isi41, onlyF, dIx_tup, dIx_lst, dIx_ref, ixAt_0, ixAt_1, ixAt_2, ixAt_3, iEq_int, iNe_int, dAdd, iAdd, iSub, iNeg, iCmp, iLe, iLt, iGe, iGt, dMul, iMulT, iMul, iMod, iDiv, gIx, setIx, decide_true, decide_false, decide_eq_true_eq, Bool.not_eq_true, List.length_map, gets_ok, gets_bind, gets_ite, rsw_ite, rsw_seq, rsw_thn, rsw_nx, rsw_ret, rst_x, rsx_seq, rsx_nx, rsx_ret, rsx_brk, rsx_cont, rsx_ite, rsx_thn, gets_fnM, onlyP, Option.map_some, Src.items]
  refine draw_w hw3 (by decide) (by decide) fun d w4 hd hw4 => ?_
  simp only [mVar, mK, mBin, mUn, mTru, mTest, mAnd, mOr, mNot, mAndV, mOrV, mNotV, mIf, mNil, mCons, mTup, mLst, mLstF, mCall, mChain, mIsi, fIsi, tyD, tyP, mSlice, oNo, oSome, mSeq, srcOf, mRange1, mRange2, sNext, sSeq, sIf, sRet, sRetN, sExpr, sSet, sAsg, sAug, sFor, sRaise, gSet, gMore, gNone, Mp.gTup, mMeth, fAppend, mEnum, srcEnum, mDNew, fLen, fInt, truth, ptruth, asB, pp1, pp2, ret1, dIs, isN, allP, frzD, mFrz, List.map_cons, List.map_nil, List.cons_append, List.nil_append, List.length_cons, List.length_nil, List.getElem?_cons_zero, List.getElem?_cons_succ, List.getElem?_nil, List.set_cons_zero, List.set_cons_succ, if_true, ite_true, Nat.reduceAdd, Nat.reduceSub, List.replicate, Bool.false_eq_true, if_false, Bool.not_true, Bool.not_false, mp_ft, mp_tf, isTy, beq_self_eq_true, isi0, isi1, isi2, isi3, isi4, isi5, isi6, isi7, isi8, isi9, isi10, isi11, isi12, isi13, isi14, isi15, isi16, isi17, isi18, isi19, isi20, isi21, isi22, isi23, isi24, isi25, isi26, isi27, isi28, isi29, isi30, isi31, isi32, isi33, isi34, isi35, isi36, isi37, isi38, isi39, isi40, isi41, onlyF, dIx_tup, dIx_lst, dIx_ref, ixAt_0, ixAt_1, ixAt_2, ixAt_3, iEq_int, iNe_int, dAdd, iAdd, iSub, iNeg, iCmp, iLe, iLt, iGe, iGt, dMul, iMulT, iMul, iMod, iDiv, gIx, setIx, decide_true, decide_false, decide_eq_true_eq, Bool.not_eq_true, List.length_map, gets_ok, gets_bind, gets_ite, rsw_ite, rsw_seq, rsw_thn, rsw_nx, rsw_ret, rst_x, rsx_seq, rsx_nx, rsx_ret, rsx_brk, rsx_cont, rsx_ite, rsx_thn, gets_fnM, onlyP, Option.map_some, Src.items]
  refine draw_w hw4 (by decide) (by decide) fun f w5 hf hw5 => ?_
  simp only [mVar, mK, mBin, mUn, mTru, mTest, mAnd, mOr, mNot, mAndV, mOrV, mNotV, mIf, mNil, mCons, mTup, mLst, mLstF, mCall, mChain, mIsi, fIsi, tyD, tyP, mSlice, oNo, oSome, mSeq, srcOf, mRange1, mRange2, sNext, sSeq, sIf, sRet, sRetN, sExpr, sSet, sAsg, sAug, sFor, sRaise, gSet, gMore, gNone, Mp.gTup, mMeth, fAppend, mEnum, srcEnum, mDNew, fLen, fInt, truth, ptruth, asB, pp1, pp2, ret1, dIs, isN, allP, frzD, mFrz, List.map_cons, List.map_nil, List.cons_append, List.nil_append, List.length_cons, List.length_nil, List.getElem?_cons_zero, List.getElem?_cons_succ, List.getElem?_nil, List.set_cons_zero, List.set_cons_succ, if_true, ite_true, Nat.reduceAdd, Nat.reduceSub, List.replicate, Bool.false_eq_true, if_false, Bool.not_true, Bool.not_false, mp_ft, mp_tf, isTy, beq_self_eq_true, isi0, isi1, isi2, isi3, isi4, isi5, isi6, isi7, isi8, isi9, isi10, isi11, isi12, isi13, isi14, isi15, isi16, isi17, isi18, isi19, isi20, isi21, isi22, isi23, isi24, isi25, isi26, isi27, isi28, isi29, isi30, isi31, isi32, isi33, isi34, isi35, isi36, isi37, isi38, isi39, isi40, isi41, onlyF, dIx_tup, dIx_lst, dIx_ref, ixAt_0, ixAt_1, ixAt_2, ixAt_3, iEq_int, iNe_int, dAdd, iAdd, iSub, iNeg, iCmp, iLe, iLt, iGe, iGt, dMul, iMulT, iMul, iMod, iDiv, gIx, setIx, decide_true, decide_false, decide_eq_true_eq, Bool.not_eq_true, List.length_map, gets_ok, gets_bind, gets_ite, rsw_ite, rsw_seq, rsw_thn, rsw_nx, rsw_ret, rst_x, rsx_seq, rsx_nx, rsx_ret, rsx_brk, rsx_cont, rsx_ite, rsx_thn, gets_fnM, onlyP, Option.map_some, Src.items, z3, z8]
  refine draw_w hw5 (by decide) (by decide) fun r w6 hr hw6 => ?_
  simp only [mVar, mK, mBin, mUn, mTru, mTest, mAnd, mOr, mNot, mAndV, mOrV, mNotV, mIf, mNil, mCons, mTup, mLst, mLstF, mCall, mChain, mIsi, fIsi, tyD, tyP, mSlice, oNo, oSome, mSeq, srcOf, mRange1, mRange2, sNext, sSeq, sIf, sRet, sRetN, sExpr, sSet, sAsg, sAug, sFor, sRaise, gSet, gMore, gNone, Mp.gTup, mMeth, fAppend, mEnum, srcEnum, mDNew, fLen, fInt, truth, ptruth, asB, pp1, pp2, ret1, dIs, isN, allP, frzD, mFrz, List.map_cons, List.map_nil, List.cons_append, List.nil_append, List.length_cons, List.length_nil, List.getElem?_cons_zero, List.getElem?_cons_succ, List.getElem?_nil, List.set_cons_zero, List.set_cons_succ, if_true, ite_true, Nat.reduceAdd, Nat.reduceSub, List.replicate, Bool.false_eq_true, if_false, Bool.not_true, Bool.not_false, mp_ft, mp_tf, isTy, beq_self_eq_true, isi0, isi1, isi2, isi3, isi4, isi5, isi6, isi7, isi8, isi9, isi10, isi11, isi12, isi13, isi14, isi15, isi16, isi17, isi18, isi19, isi20, isi21, isi22, isi23, isi24, isi25, isi26, isi27, isi28, isi29, isi30, isi31, isi32, isi33, isi34, isi35, isi36, isi37, isi38, isi39, isi40, isi41, onlyF, dIx_tup, dIx_lst, dIx_ref, ixAt_0, ixAt_1, ixAt_2, ixAt_3, iEq_int, iNe_int, dAdd, iAdd, iSub, iNeg, iCmp, iLe, iLt, iGe, iGt, dMul, iMulT, iMul, iMod, iDiv, gIx, setIx, decide_true, decide_false, decide_eq_true_eq, Bool.not_eq_true, List.length_map, gets_ok, gets_bind, gets_ite, rsw_ite, rsw_seq, rsw_thn, rsw_nx, rsw_ret, rst_x, rsx_seq, rsx_nx, rsx_ret, rsx_brk, rsx_cont, rsx_ite, rsx_thn, gets_fnM, onlyP, Option.map_some, Src.items]
  have hq : ∃ (q : Nat) (i : Int), 1 ≤ q ∧ q ≤ 30 ∧ ixAt [PyData.int 0, .int 0, .int 0, .int 1, .int 1, .int 1, .int 1, .int 2] (r : Int) = some (.int i) ∧ ixAt [PyData.int (1 + c), .int (1 + d), .int (30 - f)] i = some (.int q) := by
    obtain ⟨x, hx, e⟩ := ixAt_mem (xs := [PyData.int 0, .int 0, .int 0, .int 1, .int 1, .int 1, .int 1, .int 2]) (i := (r : Int)) (by omega) (by simp; omega)
    simp at hx
    rcases hx with rfl | rfl | rfl
    · exact ⟨1 + c, 0, by omega, by omega, e, by simp [ixAt_0]⟩
    · exact ⟨1 + d, 1, by omega, by omega, e, by simp [ixAt_1]⟩
    · exact ⟨30 - f, 2, by omega, by omega, e, by simp [ixAt_2]; omega⟩
  obtain ⟨q, i, hq1, hq30, ex, e⟩ := hq
  simp only [mVar, mK, mBin, mUn, mTru, mTest, mAnd, mOr, mNot, mAndV, mOrV, mNotV, mIf, mNil, mCons, mTup, mLst, mLstF, mCall, mChain, mIsi, fIsi, tyD, tyP, mSlice, oNo, oSome, mSeq, srcOf, mRange1, mRange2, sNext, sSeq, sIf, sRet, sRetN, sExpr, sSet, sAsg, sAug, sFor, sRaise, gSet, gMore, gNone, Mp.gTup, mMeth, fAppend, mEnum, srcEnum, mDNew, fLen, fInt, truth, ptruth, asB, pp1, pp2, ret1, dIs, isN, allP, frzD, mFrz, List.map_cons, List.map_nil, List.cons_append, List.nil_append, List.length_cons, List.length_nil, List.getElem?_cons_zero, List.getElem?_cons_succ, List.getElem?_nil, List.set_cons_zero, List.set_cons_succ, if_true, ite_true, Nat.reduceAdd, Nat.reduceSub, List.replicate, Bool.false_eq_true, if_false, Bool.not_true, Bool.not_false, mp_ft, mp_tf, isTy, beq_self_eq_true, isi0, isi1, isi2, isi3, isi4, isi5, isi6, isi7, isi8, isi9, isi10, isi11, isi12, isi13, isi14, isi15, isi16, isi17, isi18, isi19, isi20, isi21, isi22, isi23, isi24, isi25, isi26, isi27, isi28, isi29, isi30, isi31, isi32, isi33, isi34, isi35, isi36, isi37, isi38, isi39, isi40, isi41, onlyF, dIx_tup, dIx_lst, dIx_ref, ixAt_0, ixAt_1, ixAt_2, ixAt_3, iEq_int, iNe_int, dAdd, iAdd, iSub, iNeg, iCmp, iLe, iLt, iGe, iGt, dMul, iMulT, iMul, iMod, iDiv, gIx, setIx, decide_true, decide_false, decide_eq_true_eq, Bool.not_eq_true, List.length_map, gets_ok, gets_bind, gets_ite, rsw_ite, rsw_seq, rsw_thn, rsw_nx, rsw_ret, rst_x, rsx_seq, rsx_nx, rsx_ret, rsx_brk, rsx_cont, rsx_ite, rsx_thn, gets_fnM, onlyP, Option.map_some, Src.items, ex, e]
  refine draw_w hw6 (by decide) (by decide) fun u w7 hu hw7 => ?_
  refine draw_w hw7 (by decide) (by decide) fun v w8 hv hw8 => ?_
  have ro : rngOk 0 (q : Int) := rngOk_of (by omega) (by omega) (by omega) (by omega)
  simp only [mVar, mK, mBin, mUn, mTru, mTest, mAnd, mOr, mNot, mAndV, mOrV, mNotV, mIf, mNil, mCons, mTup, mLst, mLstF, mCall, mChain, mIsi, fIsi, tyD, tyP, mSlice, oNo, oSome, mSeq, srcOf, mRange1, mRange2, sNext, sSeq, sIf, sRet, sRetN, sExpr, sSet, sAsg, sAug, sFor, sRaise, gSet, gMore, gNone, Mp.gTup, mMeth, fAppend, mEnum, srcEnum, mDNew, fLen, fInt, truth, ptruth, asB, pp1, pp2, ret1, dIs, isN, allP, frzD, mFrz, List.map_cons, List.map_nil, List.cons_append, List.nil_append, List.length_cons, List.length_nil, List.getElem?_cons_zero, List.getElem?_cons_succ, List.getElem?_nil, List.set_cons_zero, List.set_cons_succ, if_true, ite_true, Nat.reduceAdd, Nat.reduceSub, List.replicate, Bool.false_eq_true, if_false, Bool.not_true, Bool.not_false, mp_ft, mp_tf, isTy, beq_self_eq_true, isi0, isi1, isi2, isi3, isi4, isi5, isi6, isi7, isi8, isi9, isi10, isi11, isi12, isi13, isi14, isi15, isi16, isi17, isi18, isi19, isi20, isi21, isi22, isi23, isi24, isi25, isi26, isi27, isi28, isi29, isi30, isi31, isi32, isi33, isi34, isi35, isi36, isi37, isi38, isi39, isi40, isi41, onlyF, dIx_tup, dIx_lst, dIx_ref, ixAt_0, ixAt_1, ixAt_2, ixAt_3, iEq_int, iNe_int, dAdd, iAdd, iSub, iNeg, iCmp, iLe, iLt, iGe, iGt, dMul, iMulT, iMul, iMod, iDiv, gIx, setIx, decide_true, decide_false, decide_eq_true_eq, Bool.not_eq_true, List.length_map, gets_ok, gets_bind, gets_ite, rsw_ite, rsw_seq, rsw_thn, rsw_nx, rsw_ret, rst_x, rsx_seq, rsx_nx, rsx_ret, rsx_brk, rsx_cont, rsx_ite, rsx_thn, gets_fnM, onlyP, Option.map_some, Src.items, newLst, z0, ro]
  refine for_gets (J := fun xs e s' => ∃ (rs : List MRow) (w' : GH) (e7 : Option D), xs.length + rs.length = q ∧ (∀ r ∈ rs, r.Ok n q) ∧ WA w' ∧ s' = ⟨[some (.lst (rs.map fun r => D.p (eR r)))], w'⟩ ∧ e = [some (.well 0), some (.p (.int n)), some (.p (.list [PyData.int (1 + c), .int (1 + d), .int (30 - f)])), some (.p (.int q)), some (.p (.int u)), some (.p (.int (1 + v))), some (.ref 0), e7, none]) (fun _ _ _ _ => trivial) ?_ ?_ _ _ _ ?_
  · rintro x xs e s' ⟨rs, w', e7, hl, hrs, hw', rfl, rfl⟩
    simp only [List.length_cons] at hl
    have ro' : rngOk 0 (n : Int) := rngOk_of (by omega) (by omega) (by omega) (by omega)
    have zn : Mp.sizeOk (rngItems 0 (n : Int).toNat).length = true := by rw [rng_len]; exact sizeOk_of (by omega)
    have zr : Mp.sizeOk (rs.length + 1) = true := sizeOk_of (by omega)
    simp only [mVar, mK, mBin, mUn, mTru, mTest, mAnd, mOr, mNot, mAndV, mOrV, mNotV, mIf, mNil, mCons, mTup, mLst, mLstF, mCall, mChain, mIsi, fIsi, tyD, tyP, mSlice, oNo, oSome, mSeq, srcOf, mRange1, mRange2, sNext, sSeq, sIf, sRet, sRetN, sExpr, sSet, sAsg, sAug, sFor, sRaise, gSet, gMore, gNone, Mp.gTup, mMeth, fAppend, mEnum, srcEnum, mDNew, fLen, fInt, truth, ptruth, asB, pp1, pp2, ret1, dIs, isN, allP, frzD, mFrz, List.map_cons, List.map_nil, List.cons_append, List.nil_append, List.length_cons, List.length_nil, List.getElem?_cons_zero, List.getElem?_cons_succ, List.getElem?_nil, List.set_cons_zero, List.set_cons_succ, if_true, ite_true, Nat.reduceAdd, Nat.reduceSub, List.replicate, Bool.false_eq_true, if_false, Bool.not_true, Bool.not_false, mp_ft, mp_tf, isTy, beq_self_eq_true, isi0, isi1, isi2, isi3, isi4, isi5, isi6, isi7, isi8, isi9, isi10, isi11, isi12, isi13, isi14, isi15, isi16, isi17, isi18, isi19, isi20, isi21, isi22, isi23, isi24, isi25, isi26, isi27, isi28, isi29, isi30, isi31, isi32, isi33, isi34, isi35, isi36, isi37, isi38, isi39, isi40, isi41, onlyF, dIx_tup, dIx_lst, dIx_ref, ixAt_0, ixAt_1, ixAt_2, ixAt_3, iEq_int, iNe_int, dAdd, iAdd, iSub, iNeg, iCmp, iLe, iLt, iGe, iGt, dMul, iMulT, iMul, iMod, iDiv, gIx, setIx, decide_true, decide_false, decide_eq_true_eq, Bool.not_eq_true, List.length_map, gets_ok, gets_bind, gets_ite, rsw_ite, rsw_seq, rsw_thn, rsw_nx, rsw_ret, rst_x, rsx_seq, rsx_nx, rsx_ret, rsx_brk, rsx_cont, rsx_ite, rsx_thn, gets_fnM, onlyP, Option.map_some, Src.items, isTy]
    refine end_w hw' fun o w9 ho hw9 => ?_
    simp only [mVar, mK, mBin, mUn, mTru, mTest, mAnd, mOr, mNot, mAndV, mOrV, mNotV, mIf, mNil, mCons, mTup, mLst, mLstF, mCall, mChain, mIsi, fIsi, tyD, tyP, mSlice, oNo, oSome, mSeq, srcOf, mRange1, mRange2, sNext, sSeq, sIf, sRet, sRetN, sExpr, sSet, sAsg, sAug, sFor, sRaise, gSet, gMore, gNone, Mp.gTup, mMeth, fAppend, mEnum, srcEnum, mDNew, fLen, fInt, truth, ptruth, asB, pp1, pp2, ret1, dIs, isN, allP, frzD, mFrz, List.map_cons, List.map_nil, List.cons_append, List.nil_append, List.length_cons, List.length_nil, List.getElem?_cons_zero, List.getElem?_cons_succ, List.getElem?_nil, List.set_cons_zero, List.set_cons_succ, if_true, ite_true, Nat.reduceAdd, Nat.reduceSub, List.replicate, Bool.false_eq_true, if_false, Bool.not_true, Bool.not_false, mp_ft, mp_tf, isTy, beq_self_eq_true, isi0, isi1, isi2, isi3, isi4, isi5, isi6, isi7, isi8, isi9, isi10, isi11, isi12, isi13, isi14, isi15, isi16, isi17, isi18, isi19, isi20, isi21, isi22, isi23, isi24, isi25, isi26, isi27, isi28, isi29, isi30, isi31, isi32, isi33, isi34, isi35, isi36, isi37, isi38, isi39, isi40, isi41, onlyF, dIx_tup, dIx_lst, dIx_ref, ixAt_0, ixAt_1, ixAt_2, ixAt_3, iEq_int, iNe_int, dAdd, iAdd, iSub, iNeg, iCmp, iLe, iLt, iGe, iGt, dMul, iMulT, iMul, iMod, iDiv, gIx, setIx, decide_true, decide_false, decide_eq_true_eq, Bool.not_eq_true, List.length_map, gets_ok, gets_bind, gets_ite, rsw_ite, rsw_seq, rsw_thn, rsw_nx, rsw_ret, rst_x, rsx_seq, rsx_nx, rsx_ret, rsx_brk, rsx_cont, rsx_ite, rsx_thn, gets_fnM, onlyP, Option.map_some, Src.items, mLc, ro', zn, wipeE]
    refine lc_typed (I := fun s => s.g = [some (.lst (rs.map fun r => D.p (eR r)))] ∧ WA s.w) (P := MSt.Ok q) (f := eS) (fun _ _ => trivial) ?_ ⟨rfl, hw9⟩ ?_
    · rintro x hx ⟨g', w'⟩ ⟨rfl, hw''⟩
      simp only [mVar, mK, mBin, mUn, mTru, mTest, mAnd, mOr, mNot, mAndV, mOrV, mNotV, mIf, mNil, mCons, mTup, mLst, mLstF, mCall, mChain, mIsi, fIsi, tyD, tyP, mSlice, oNo, oSome, mSeq, srcOf, mRange1, mRange2, sNext, sSeq, sIf, sRet, sRetN, sExpr, sSet, sAsg, sAug, sFor, sRaise, gSet, gMore, gNone, Mp.gTup, mMeth, fAppend, mEnum, srcEnum, mDNew, fLen, fInt, truth, ptruth, asB, pp1, pp2, ret1, dIs, isN, allP, frzD, mFrz, List.map_cons, List.map_nil, List.cons_append, List.nil_append, List.length_cons, List.length_nil, List.getElem?_cons_zero, List.getElem?_cons_succ, List.getElem?_nil, List.set_cons_zero, List.set_cons_succ, if_true, ite_true, Nat.reduceAdd, Nat.reduceSub, List.replicate, Bool.false_eq_true, if_false, Bool.not_true, Bool.not_false, mp_ft, mp_tf, isTy, beq_self_eq_true, isi0, isi1, isi2, isi3, isi4, isi5, isi6, isi7, isi8, isi9, isi10, isi11, isi12, isi13, isi14, isi15, isi16, isi17, isi18, isi19, isi20, isi21, isi22, isi23, isi24, isi25, isi26, isi27, isi28, isi29, isi30, isi31, isi32, isi33, isi34, isi35, isi36, isi37, isi38, isi39, isi40, isi41, onlyF, dIx_tup, dIx_lst, dIx_ref, ixAt_0, ixAt_1, ixAt_2, ixAt_3, iEq_int, iNe_int, dAdd, iAdd, iSub, iNeg, iCmp, iLe, iLt, iGe, iGt, dMul, iMulT, iMul, iMod, iDiv, gIx, setIx, decide_true, decide_false, decide_eq_true_eq, Bool.not_eq_true, List.length_map, gets_ok, gets_bind, gets_ite, rsw_ite, rsw_seq, rsw_thn, rsw_nx, rsw_ret, rst_x, rsx_seq, rsx_nx, rsx_ret, rsx_brk, rsx_cont, rsx_ite, rsx_thn, gets_fnM, onlyP, Option.map_some, Src.items]
      exact step_w hw'' (by omega) (by omega) fun s w' hs hw' => ⟨⟨rfl, hw'⟩, s, hs, rfl⟩
    · rintro as ⟨g', w'⟩ hla has ⟨rfl, hw''⟩
      rw [rng_len] at hla
      simp only [kFrz, allP_map, mVar, mK, mBin, mUn, mTru, mTest, mAnd, mOr, mNot, mAndV, mOrV, mNotV, mIf, mNil, mCons, mTup, mLst, mLstF, mCall, mChain, mIsi, fIsi, tyD, tyP, mSlice, oNo, oSome, mSeq, srcOf, mRange1, mRange2, sNext, sSeq, sIf, sRet, sRetN, sExpr, sSet, sAsg, sAug, sFor, sRaise, gSet, gMore, gNone, Mp.gTup, mMeth, fAppend, mEnum, srcEnum, mDNew, fLen, fInt, truth, ptruth, asB, pp1, pp2, ret1, dIs, isN, allP, frzD, mFrz, List.map_cons, List.map_nil, List.cons_append, List.nil_append, List.length_cons, List.length_nil, List.getElem?_cons_zero, List.getElem?_cons_succ, List.getElem?_nil, List.set_cons_zero, List.set_cons_succ, if_true, ite_true, Nat.reduceAdd, Nat.reduceSub, List.replicate, Bool.false_eq_true, if_false, Bool.not_true, Bool.not_false, mp_ft, mp_tf, isTy, beq_self_eq_true, isi0, isi1, isi2, isi3, isi4, isi5, isi6, isi7, isi8, isi9, isi10, isi11, isi12, isi13, isi14, isi15, isi16, isi17, isi18, isi19, isi20, isi21, isi22, isi23, isi24, isi25, isi26, isi27, isi28, isi29, isi30, isi31, isi32, isi33, isi34, isi35, isi36, isi37, isi38, isi39, isi40, isi41, onlyF, dIx_tup, dIx_lst, dIx_ref, ixAt_0, ixAt_1, ixAt_2, ixAt_3, iEq_int, iNe_int, dAdd, iAdd, iSub, iNeg, iCmp, iLe, iLt, iGe, iGt, dMul, iMulT, iMul, iMod, iDiv, gIx, setIx, decide_true, decide_false, decide_eq_true_eq, Bool.not_eq_true, List.length_map, gets_ok, gets_bind, gets_ite, rsw_ite, rsw_seq, rsw_thn, rsw_nx, rsw_ret, rst_x, rsx_seq, rsx_nx, rsx_ret, rsx_brk, rsx_cont, rsx_ite, rsx_thn, gets_fnM, onlyP, Option.map_some, Src.items, fTuple, lstP, z2, zr]
      refine ⟨rs ++ [⟨o, as⟩], w', _, by simp; omega, ?_, hw'', by simp [eR], rfl⟩
      intro r' hr'
      rcases List.mem_append.mp hr' with h' | h'
      · exact hrs r' h'
      · simp at h'
        subst h'
        exact ⟨by simpa using hla, ho, has⟩
  · rintro e s' ⟨rs, w', e7, hl, hrs, hw', rfl, rfl⟩
    simp only [List.length_nil, Nat.zero_add] at hl
    subst hl
    simp only [mVar, mK, mBin, mUn, mTru, mTest, mAnd, mOr, mNot, mAndV, mOrV, mNotV, mIf, mNil, mCons, mTup, mLst, mLstF, mCall, mChain, mIsi, fIsi, tyD, tyP, mSlice, oNo, oSome, mSeq, srcOf, mRange1, mRange2, sNext, sSeq, sIf, sRet, sRetN, sExpr, sSet, sAsg, sAug, sFor, sRaise, gSet, gMore, gNone, Mp.gTup, mMeth, fAppend, mEnum, srcEnum, mDNew, fLen, fInt, truth, ptruth, asB, pp1, pp2, ret1, dIs, isN, allP, frzD, mFrz, List.map_cons, List.map_nil, List.cons_append, List.nil_append, List.length_cons, List.length_nil, List.getElem?_cons_zero, List.getElem?_cons_succ, List.getElem?_nil, List.set_cons_zero, List.set_cons_succ, if_true, ite_true, Nat.reduceAdd, Nat.reduceSub, List.replicate, Bool.false_eq_true, if_false, Bool.not_true, Bool.not_false, mp_ft, mp_tf, isTy, beq_self_eq_true, isi0, isi1, isi2, isi3, isi4, isi5, isi6, isi7, isi8, isi9, isi10, isi11, isi12, isi13, isi14, isi15, isi16, isi17, isi18, isi19, isi20, isi21, isi22, isi23, isi24, isi25, isi26, isi27, isi28, isi29, isi30, isi31, isi32, isi33, isi34, isi35, isi36, isi37, isi38, isi39, isi40, isi41, onlyF, dIx_tup, dIx_lst, dIx_ref, ixAt_0, ixAt_1, ixAt_2, ixAt_3, iEq_int, iNe_int, dAdd, iAdd, iSub, iNeg, iCmp, iLe, iLt, iGe, iGt, dMul, iMulT, iMul, iMod, iDiv, gIx, setIx, decide_true, decide_false, decide_eq_true_eq, Bool.not_eq_true, List.length_map, gets_ok, gets_bind, gets_ite, rsw_ite, rsw_seq, rsw_thn, rsw_nx, rsw_ret, rst_x, rsx_seq, rsx_nx, rsx_ret, rsx_brk, rsx_cont, rsx_ite, rsx_thn, gets_fnM, onlyP, Option.map_some, Src.items, fTuple, lstP, allP_map, z2]
    exact ⟨_, rfl, h ⟨n, rs⟩ w' ⟨hn1, hn8, hq1, hq30, hrs⟩ hw'⟩
  · exact ⟨[], w8, none, by rw [rng_len]; simp, by simp, hw8, rfl, rfl⟩

/-! _law_nexts -/
theorem sc__law_nexts : FnScope ["_law_row", "_law_step_here"] ["_law_row"] (defScope t__law_nexts) := ⟨rfl, rfl, rfl, by decide +kernel, rfl, by decide +kernel, by decide +kernel⟩
theorem bn__law_nexts : BindN "_law_nexts" t__law_nexts ["_law_row"] := fun _ _ _ _ _ _ us hl => match us, hl with | [_], _ => rfl
noncomputable def b__law_nexts : MS := (sRet (mLc (mSeq (mBin dIx (mVar 0) (mK (.int 1)))) [1] (gSet 1) (mTest (mBin (dIs false) (mVar 1) (mK .none))) (mBin dIx (mVar 1) (mK (.int 1))) kFrz))
theorem raw__law_nexts (N : Nm K mg) : DefOk P w K mg base "_law_nexts" 1 1 (fnM 1 2 b__law_nexts) := def_mk N.d__law_nexts sc__law_nexts bn__law_nexts rfl rfl fun f cdv A outer s H E hr nd tk hp => (ss_one (s_ret (e_lcF (own := [("_law_step_here", 1)]) rfl nd (i_seq (e_ix (e_var (i := 0)) e_int)) (blkOk_by (N := ["_law_row", "_law_step_here"]) (sc := defScope t__law_nexts) (own := [("_law_step_here", 1)]) (by decide +kernel)) (tg_name (i := 1) (by decide)) (fun _ _ _ _ _ => pg_name (i := 1) nd rfl (by first | exact Or.inl rfl | exact Or.inr rfl)) (fun _ _ _ _ _ => (c_if (t_cmp o_isnot (e_var (i := 1)) e_none (nomark _)))) (fun _ _ _ _ _ => (e_ix (e_var (i := 1)) e_int)))))
theorem Mx__law_nexts : ∃ f : List D → S → R D, f = pureRun (fnM 1 2 b__law_nexts) := ⟨_, rfl⟩
noncomputable def M__law_nexts : List D → S → R D := Classical.choose Mx__law_nexts
theorem Me__law_nexts : M__law_nexts = pureRun (fnM 1 2 b__law_nexts) := Classical.choose_spec Mx__law_nexts
theorem ok__law_nexts (N : Nm K mg) : DefOk P w K mg base "_law_nexts" 1 1 M__law_nexts := by rw [Me__law_nexts]; exact (raw__law_nexts N).alone
theorem nexts_eq {r : MRow} (hz : r.ss.length ≤ 1000) {s : S} : M__law_nexts [.p (eR r)] s = .ok (.p (.list ((r.ss.filterMap fun s => s.map (·.2)).map eN))) s := by
  rw [Me__law_nexts]; refine pure_eq rfl ?_
  have zr : Mp.sizeOk r.ss.length = true := sizeOk_of (by omega)
  simp only [b__law_nexts, mVar, mK, mBin, mUn, mTru, mTest, mAnd, mOr, mNot, mAndV, mOrV, mNotV, mIf, mNil, mCons, mTup, mLst, mLstF, mCall, mChain, mIsi, fIsi, tyD, tyP, mSlice, oNo, oSome, mSeq, srcOf, mRange1, mRange2, sNext, sSeq, sIf, sRet, sRetN, sExpr, sSet, sAsg, sAug, sFor, sRaise, gSet, gMore, gNone, Mp.gTup, mMeth, fAppend, mEnum, srcEnum, mDNew, fLen, fInt, truth, ptruth, asB, pp1, pp2, ret1, dIs, isN, allP, frzD, mFrz, List.map_cons, List.map_nil, List.cons_append, List.nil_append, List.length_cons, List.length_nil, List.getElem?_cons_zero, List.getElem?_cons_succ, List.getElem?_nil, List.set_cons_zero, List.set_cons_succ, if_true, ite_true, Nat.reduceAdd, Nat.reduceSub, List.replicate, Bool.false_eq_true, if_false, Bool.not_true, Bool.not_false, mp_ft, mp_tf, isTy, beq_self_eq_true, isi0, isi1, isi2, isi3, isi4, isi5, isi6, isi7, isi8, isi9, isi10, isi11, isi12, isi13, isi14, isi15, isi16, isi17, isi18, isi19, isi20, isi21, isi22, isi23, isi24, isi25, isi26, isi27, isi28, isi29, isi30, isi31, isi32, isi33, isi34, isi35, isi36, isi37, isi38, isi39, isi40, isi41, onlyF, dIx_tup, dIx_lst, dIx_ref, ixAt_0, ixAt_1, ixAt_2, ixAt_3, iEq_int, iNe_int, dAdd, iAdd, iSub, iNeg, iCmp, iLe, iLt, iGe, iGt, dMul, iMulT, iMul, iMod, iDiv, gIx, setIx, decide_true, decide_false, decide_eq_true_eq, Bool.not_eq_true, List.length_map, gets_ok, gets_bind, gets_ite, rsw_ite, rsw_seq, rsw_thn, rsw_nx, rsw_ret, rst_x, rsx_seq, rsx_nx, rsx_ret, rsx_brk, rsx_cont, rsx_ite, rsx_thn, gets_fnM, onlyP, Option.map_some, Src.items, mLc, ix_R1, wipeE, zr, map_map]
  rw [lc_filter (a := fun s : MSt => D.p (eS s)) (f := fun s : MSt => D.p (eN (s.getD (0, 0)).2)) (p := fun s : MSt => s.isSome) trivial (fun s _ => by cases s <;> simp only [eS, pureRun, onlyP, fnM, mVar, mK, mBin, mUn, mTru, mTest, mAnd, mOr, mNot, mAndV, mOrV, mNotV, mIf, mNil, mCons, mTup, mLst, mLstF, mCall, mChain, mIsi, fIsi, tyD, tyP, mSlice, oNo, oSome, mSeq, srcOf, mRange1, mRange2, sNext, sSeq, sIf, sRet, sRetN, sExpr, sSet, sAsg, sAug, sFor, sRaise, gSet, gMore, gNone, Mp.gTup, mMeth, fAppend, mEnum, srcEnum, mDNew, fLen, fInt, truth, ptruth, asB, pp1, pp2, ret1, dIs, isN, allP, frzD, mFrz, Mp.R.bind, R.thn, RS.seq, List.map_cons, List.map_nil, List.cons_append, List.nil_append, List.length_cons, List.length_nil, List.getElem?_cons_zero, List.getElem?_cons_succ, List.getElem?_nil, List.set_cons_zero, List.set_cons_succ, if_true, ite_true, Nat.reduceAdd, Nat.reduceSub, List.replicate, Bool.false_eq_true, if_false, Bool.not_true, Bool.not_false, mp_ft, mp_tf, isTy, beq_self_eq_true, isi0, isi1, isi2, isi3, isi4, isi5, isi6, isi7, isi8, isi9, isi10, isi11, isi12, isi13, isi14, isi15, isi16, isi17, isi18, isi19, isi20, isi21, isi22, isi23, isi24, isi25, isi26, isi27, isi28, isi29, isi30, isi31, isi32, isi33, isi34, isi35, isi36, isi37, isi38, isi39, isi40, isi41, onlyF, dIx_tup, dIx_lst, dIx_ref, ixAt_0, ixAt_1, ixAt_2, ixAt_3, iEq_int, iNe_int, dAdd, iAdd, iSub, iNeg, iCmp, iLe, iLt, iGe, iGt, dMul, iMulT, iMul, iMod, iDiv, gIx, setIx, decide_true, decide_false, decide_eq_true_eq, Bool.not_eq_true, List.length_map] <;> rfl) (fun s _ hs => by
    cases s with
    | none => cases hs
    | some p => simp only [eS, pureRun, onlyP, fnM, mVar, mK, mBin, mUn, mTru, mTest, mAnd, mOr, mNot, mAndV, mOrV, mNotV, mIf, mNil, mCons, mTup, mLst, mLstF, mCall, mChain, mIsi, fIsi, tyD, tyP, mSlice, oNo, oSome, mSeq, srcOf, mRange1, mRange2, sNext, sSeq, sIf, sRet, sRetN, sExpr, sSet, sAsg, sAug, sFor, sRaise, gSet, gMore, gNone, Mp.gTup, mMeth, fAppend, mEnum, srcEnum, mDNew, fLen, fInt, truth, ptruth, asB, pp1, pp2, ret1, dIs, isN, allP, frzD, mFrz, Mp.R.bind, R.thn, RS.seq, List.map_cons, List.map_nil, List.cons_append, List.nil_append, List.length_cons, List.length_nil, List.getElem?_cons_zero, List.getElem?_cons_succ, List.getElem?_nil, List.set_cons_zero, List.set_cons_succ, if_true, ite_true, Nat.reduceAdd, Nat.reduceSub, List.replicate, Bool.false_eq_true, if_false, Bool.not_true, Bool.not_false, mp_ft, mp_tf, isTy, beq_self_eq_true, isi0, isi1, isi2, isi3, isi4, isi5, isi6, isi7, isi8, isi9, isi10, isi11, isi12, isi13, isi14, isi15, isi16, isi17, isi18, isi19, isi20, isi21, isi22, isi23, isi24, isi25, isi26, isi27, isi28, isi29, isi30, isi31, isi32, isi33, isi34, isi35, isi36, isi37, isi38, isi39, isi40, isi41, onlyF, dIx_tup, dIx_lst, dIx_ref, ixAt_0, ixAt_1, ixAt_2, ixAt_3, iEq_int, iNe_int, dAdd, iAdd, iSub, iNeg, iCmp, iLe, iLt, iGe, iGt, dMul, iMulT, iMul, iMod, iDiv, gIx, setIx, decide_true, decide_false, decide_eq_true_eq, Bool.not_eq_true, List.length_map, eN, Option.getD_some])]
  simp only [mVar, mK, mBin, mUn, mTru, mTest, mAnd, mOr, mNot, mAndV, mOrV, mNotV, mIf, mNil, mCons, mTup, mLst, mLstF, mCall, mChain, mIsi, fIsi, tyD, tyP, mSlice, oNo, oSome, mSeq, srcOf, mRange1, mRange2, sNext, sSeq, sIf, sRet, sRetN, sExpr, sSet, sAsg, sAug, sFor, sRaise, gSet, gMore, gNone, Mp.gTup, mMeth, fAppend, mEnum, srcEnum, mDNew, fLen, fInt, truth, ptruth, asB, pp1, pp2, ret1, dIs, isN, allP, frzD, mFrz, List.map_cons, List.map_nil, List.cons_append, List.nil_append, List.length_cons, List.length_nil, List.getElem?_cons_zero, List.getElem?_cons_succ, List.getElem?_nil, List.set_cons_zero, List.set_cons_succ, if_true, ite_true, Nat.reduceAdd, Nat.reduceSub, List.replicate, Bool.false_eq_true, if_false, Bool.not_true, Bool.not_false, mp_ft, mp_tf, isTy, beq_self_eq_true, isi0, isi1, isi2, isi3, isi4, isi5, isi6, isi7, isi8, isi9, isi10, isi11, isi12, isi13, isi14, isi15, isi16, isi17, isi18, isi19, isi20, isi21, isi22, isi23, isi24, isi25, isi26, isi27, isi28, isi29, isi30, isi31, isi32, isi33, isi34, isi35, isi36, isi37, isi38, isi39, isi40, isi41, onlyF, dIx_tup, dIx_lst, dIx_ref, ixAt_0, ixAt_1, ixAt_2, ixAt_3, iEq_int, iNe_int, dAdd, iAdd, iSub, iNeg, iCmp, iLe, iLt, iGe, iGt, dMul, iMulT, iMul, iMod, iDiv, gIx, setIx, decide_true, decide_false, decide_eq_true_eq, Bool.not_eq_true, List.length_map, gets_ok, gets_bind, gets_ite, rsw_ite, rsw_seq, rsw_thn, rsw_nx, rsw_ret, rst_x, rsx_seq, rsx_nx, rsx_ret, rsx_brk, rsx_cont, rsx_ite, rsx_thn, gets_fnM, onlyP, Option.map_some, Src.items, kFrz, allP_map]
  have e : (r.ss.filter fun s => s.isSome).map (fun s : MSt => eN (s.getD (0, 0)).2) = (r.ss.filterMap fun s => s.map (·.2)).map eN := by
    rw [show (r.ss.filter fun s => s.isSome) = r.ss.filter Option.isSome from rfl, filt_some (g := fun p : Nat × Nat => eN p.2) (d := (0, 0)), List.map_filterMap]
    simp [Option.map_map, Function.comp_def]
  exact ⟨by rw [e], trivial⟩

/-! _law_fresh -/
theorem sc__law_fresh : FnScope ["_law_found", "_law_more_here", "_law_fresh_here", "_law_state"] ["_law_found", "_law_more_here"] (defScope t__law_fresh) := ⟨rfl, rfl, rfl, by decide +kernel, rfl, by decide +kernel, by decide +kernel⟩
theorem bn__law_fresh : BindN "_law_fresh" t__law_fresh ["_law_found", "_law_more_here"] := fun _ _ _ _ _ _ us hl => match us, hl with | [_, _], _ => rfl
noncomputable def b__law_fresh : MS := (sSeq (sSet 2 (mLst mNil)) (sSeq (sFor (mSeq (mVar 1)) (gSet 3) (sIf (mAnd (mTest (mBin dNotIn (mVar 3) (mVar 0))) (mTest (mBin dNotIn (mVar 3) (mVar 2)))) (sExpr (mMeth "list" fAppend (mVar 2) (mCons (mVar 3) mNil))) sNext)) (sRet (mFrz (mVar 2)))))
theorem raw__law_fresh (N : Nm K mg) : DefOk P w K mg base "_law_fresh" 1 2 (fnM 2 4 b__law_fresh) := def_mk N.d__law_fresh sc__law_fresh bn__law_fresh rfl rfl fun f cdv A outer s H E hr nd tk hp => (ss_cons (s_set (i := 2) nd (e_lst a_nil)) (ss_cons (s_for hp rfl (i_seq (e_var (i := 1))) (g_name (i := 3) nd) (ss_one (s_if (t_w (w_and (t_cmp (o_notin (hu65 hr)) (e_var (i := 3)) (e_var (i := 0)) rfl) (w_and1 (t_cmp (o_notin (hu65 hr)) (e_var (i := 3)) (e_var (i := 2)) rfl)))) (ss_one (s_expr (e_append (e_var (i := 2)) (a_cons (e_var (i := 3)) a_nil)))) ss_nil))) (ss_one (s_ret (e_frz (e_var (i := 2)))))))
theorem Mx__law_fresh : ∃ f : List D → S → R D, f = pureRun (fnM 2 4 b__law_fresh) := ⟨_, rfl⟩
noncomputable def M__law_fresh : List D → S → R D := Classical.choose Mx__law_fresh
theorem Me__law_fresh : M__law_fresh = pureRun (fnM 2 4 b__law_fresh) := Classical.choose_spec Mx__law_fresh
theorem ok__law_fresh (N : Nm K mg) : DefOk P w K mg base "_law_fresh" 1 2 M__law_fresh := by rw [Me__law_fresh]; exact (raw__law_fresh N).alone
theorem fresh_eq {fs ms : List Nat} (hz : ms.length ≤ 1000) {s : S} : M__law_fresh [.p (.list (fs.map eN)), .p (.list (ms.map eN))] s = .ok (.p (.list ((freshL fs ms []).map eN))) s := by
  rw [Me__law_fresh]; refine pure_eq rfl ?_
  have z0 : Mp.sizeOk 0 = true := by decide
  simp only [b__law_fresh, mVar, mK, mBin, mUn, mTru, mTest, mAnd, mOr, mNot, mAndV, mOrV, mNotV, mIf, mNil, mCons, mTup, mLst, mLstF, mCall, mChain, mIsi, fIsi, tyD, tyP, mSlice, oNo, oSome, mSeq, srcOf, mRange1, mRange2, sNext, sSeq, sIf, sRet, sRetN, sExpr, sSet, sAsg, sAug, sFor, sRaise, gSet, gMore, gNone, Mp.gTup, mMeth, fAppend, mEnum, srcEnum, mDNew, fLen, fInt, truth, ptruth, asB, pp1, pp2, ret1, dIs, isN, allP, frzD, mFrz, List.map_cons, List.map_nil, List.cons_append, List.nil_append, List.length_cons, List.length_nil, List.getElem?_cons_zero, List.getElem?_cons_succ, List.getElem?_nil, List.set_cons_zero, List.set_cons_succ, if_true, ite_true, Nat.reduceAdd, Nat.reduceSub, List.replicate, Bool.false_eq_true, if_false, Bool.not_true, Bool.not_false, mp_ft, mp_tf, isTy, beq_self_eq_true, isi0, isi1, isi2, isi3, isi4, isi5, isi6, isi7, isi8, isi9, isi10, isi11, isi12, isi13, isi14, isi15, isi16, isi17, isi18, isi19, isi20, isi21, isi22, isi23, isi24, isi25, isi26, isi27, isi28, isi29, isi30, isi31, isi32, isi33, isi34, isi35, isi36, isi37, isi38, isi39, isi40, isi41, onlyF, dIx_tup, dIx_lst, dIx_ref, ixAt_0, ixAt_1, ixAt_2, ixAt_3, iEq_int, iNe_int, dAdd, iAdd, iSub, iNeg, iCmp, iLe, iLt, iGe, iGt, dMul, iMulT, iMul, iMod, iDiv, gIx, setIx, decide_true, decide_false, decide_eq_true_eq, Bool.not_eq_true, List.length_map, gets_ok, gets_bind, gets_ite, rsw_ite, rsw_seq, rsw_thn, rsw_nx, rsw_ret, rst_x, rsx_seq, rsx_nx, rsx_ret, rsx_brk, rsx_cont, rsx_ite, rsx_thn, gets_fnM, onlyP, Option.map_some, Src.items, newLst, z0, map_map, List.nil_append]
  refine for_gets (J := fun xs e s' => ∃ (r1 acc : List Nat) (e3 : Option D), xs = r1.map (fun q => D.p (eN q)) ∧ freshL fs r1 acc = freshL fs ms [] ∧ acc.length + r1.length ≤ 1000 ∧ s' = ⟨[some (.lst (acc.map fun q => D.p (eN q)))], s.w⟩ ∧
    e = [some (.p (.list (fs.map eN))), some (.p (.list (ms.map eN))), some (.ref 0), e3]) (fun _ _ _ _ => trivial) ?_ ?_ _ _ _ ⟨ms, [], none, rfl, rfl, by simpa using hz, rfl, rfl⟩
  · rintro x xs e s' ⟨r1, acc, e3, hx, he, hl, rfl, rfl⟩
    cases r1 with
    | nil => cases hx
    | cons q r1 =>
      cases hx
      simp only [List.length_cons] at hl
      simp only [freshL] at he
      have zz : Mp.sizeOk (acc.length + 1) = true := sizeOk_of (by omega)
      have h1 : dNotIn (.p (eN q)) (.p (.list (fs.map eN))) (⟨[some (.lst (acc.map fun q => D.p (eN q)))], s.w⟩ : S) = .ok (.p (.bool (!decide (q ∈ fs)))) ⟨[some (.lst (acc.map fun q => D.p (eN q)))], s.w⟩ := notin_list
      have h2 : dNotIn (.p (eN q)) (.ref 0) (⟨[some (.lst (acc.map fun q => D.p (eN q)))], s.w⟩ : S) = .ok (.p (.bool (!decide (q ∈ acc)))) ⟨[some (.lst (acc.map fun q => D.p (eN q)))], s.w⟩ := notin_lref rfl
      simp only [mVar, mK, mBin, mUn, mTru, mTest, mAnd, mOr, mNot, mAndV, mOrV, mNotV, mIf, mNil, mCons, mTup, mLst, mLstF, mCall, mChain, mIsi, fIsi, tyD, tyP, mSlice, oNo, oSome, mSeq, srcOf, mRange1, mRange2, sNext, sSeq, sIf, sRet, sRetN, sExpr, sSet, sAsg, sAug, sFor, sRaise, gSet, gMore, gNone, Mp.gTup, mMeth, fAppend, mEnum, srcEnum, mDNew, fLen, fInt, truth, ptruth, asB, pp1, pp2, ret1, dIs, isN, allP, frzD, mFrz, List.map_cons, List.map_nil, List.cons_append, List.nil_append, List.length_cons, List.length_nil, List.getElem?_cons_zero, List.getElem?_cons_succ, List.getElem?_nil, List.set_cons_zero, List.set_cons_succ, if_true, ite_true, Nat.reduceAdd, Nat.reduceSub, List.replicate, Bool.false_eq_true, if_false, Bool.not_true, Bool.not_false, mp_ft, mp_tf, isTy, beq_self_eq_true, isi0, isi1, isi2, isi3, isi4, isi5, isi6, isi7, isi8, isi9, isi10, isi11, isi12, isi13, isi14, isi15, isi16, isi17, isi18, isi19, isi20, isi21, isi22, isi23, isi24, isi25, isi26, isi27, isi28, isi29, isi30, isi31, isi32, isi33, isi34, isi35, isi36, isi37, isi38, isi39, isi40, isi41, onlyF, dIx_tup, dIx_lst, dIx_ref, ixAt_0, ixAt_1, ixAt_2, ixAt_3, iEq_int, iNe_int, dAdd, iAdd, iSub, iNeg, iCmp, iLe, iLt, iGe, iGt, dMul, iMulT, iMul, iMod, iDiv, gIx, setIx, decide_true, decide_false, decide_eq_true_eq, Bool.not_eq_true, List.length_map, gets_ok, gets_bind, gets_ite, rsw_ite, rsw_seq, rsw_thn, rsw_nx, rsw_ret, rst_x, rsx_seq, rsx_nx, rsx_ret, rsx_brk, rsx_cont, rsx_ite, rsx_thn, gets_fnM, onlyP, Option.map_some, Src.items, h1]
      by_cases hq : q ∈ fs
      · rw [if_neg (fun z => z.1 hq)] at he
        simp only [hq, mVar, mK, mBin, mUn, mTru, mTest, mAnd, mOr, mNot, mAndV, mOrV, mNotV, mIf, mNil, mCons, mTup, mLst, mLstF, mCall, mChain, mIsi, fIsi, tyD, tyP, mSlice, oNo, oSome, mSeq, srcOf, mRange1, mRange2, sNext, sSeq, sIf, sRet, sRetN, sExpr, sSet, sAsg, sAug, sFor, sRaise, gSet, gMore, gNone, Mp.gTup, mMeth, fAppend, mEnum, srcEnum, mDNew, fLen, fInt, truth, ptruth, asB, pp1, pp2, ret1, dIs, isN, allP, frzD, mFrz, List.map_cons, List.map_nil, List.cons_append, List.nil_append, List.length_cons, List.length_nil, List.getElem?_cons_zero, List.getElem?_cons_succ, List.getElem?_nil, List.set_cons_zero, List.set_cons_succ, if_true, ite_true, Nat.reduceAdd, Nat.reduceSub, List.replicate, Bool.false_eq_true, if_false, Bool.not_true, Bool.not_false, mp_ft, mp_tf, isTy, beq_self_eq_true, isi0, isi1, isi2, isi3, isi4, isi5, isi6, isi7, isi8, isi9, isi10, isi11, isi12, isi13, isi14, isi15, isi16, isi17, isi18, isi19, isi20, isi21, isi22, isi23, isi24, isi25, isi26, isi27, isi28, isi29, isi30, isi31, isi32, isi33, isi34, isi35, isi36, isi37, isi38, isi39, isi40, isi41, onlyF, dIx_tup, dIx_lst, dIx_ref, ixAt_0, ixAt_1, ixAt_2, ixAt_3, iEq_int, iNe_int, dAdd, iAdd, iSub, iNeg, iCmp, iLe, iLt, iGe, iGt, dMul, iMulT, iMul, iMod, iDiv, gIx, setIx, decide_true, decide_false, decide_eq_true_eq, Bool.not_eq_true, List.length_map, gets_ok, gets_bind, gets_ite, rsw_ite, rsw_seq, rsw_thn, rsw_nx, rsw_ret, rst_x, rsx_seq, rsx_nx, rsx_ret, rsx_brk, rsx_cont, rsx_ite, rsx_thn, gets_fnM, onlyP, Option.map_some, Src.items]
        exact ⟨r1, acc, _, rfl, he, by omega, rfl, rfl⟩
      · simp only [hq, mVar, mK, mBin, mUn, mTru, mTest, mAnd, mOr, mNot, mAndV, mOrV, mNotV, mIf, mNil, mCons, mTup, mLst, mLstF, mCall, mChain, mIsi, fIsi, tyD, tyP, mSlice, oNo, oSome, mSeq, srcOf, mRange1, mRange2, sNext, sSeq, sIf, sRet, sRetN, sExpr, sSet, sAsg, sAug, sFor, sRaise, gSet, gMore, gNone, Mp.gTup, mMeth, fAppend, mEnum, srcEnum, mDNew, fLen, fInt, truth, ptruth, asB, pp1, pp2, ret1, dIs, isN, allP, frzD, mFrz, List.map_cons, List.map_nil, List.cons_append, List.nil_append, List.length_cons, List.length_nil, List.getElem?_cons_zero, List.getElem?_cons_succ, List.getElem?_nil, List.set_cons_zero, List.set_cons_succ, if_true, ite_true, Nat.reduceAdd, Nat.reduceSub, List.replicate, Bool.false_eq_true, if_false, Bool.not_true, Bool.not_false, mp_ft, mp_tf, isTy, beq_self_eq_true, isi0, isi1, isi2, isi3, isi4, isi5, isi6, isi7, isi8, isi9, isi10, isi11, isi12, isi13, isi14, isi15, isi16, isi17, isi18, isi19, isi20, isi21, isi22, isi23, isi24, isi25, isi26, isi27, isi28, isi29, isi30, isi31, isi32, isi33, isi34, isi35, isi36, isi37, isi38, isi39, isi40, isi41, onlyF, dIx_tup, dIx_lst, dIx_ref, ixAt_0, ixAt_1, ixAt_2, ixAt_3, iEq_int, iNe_int, dAdd, iAdd, iSub, iNeg, iCmp, iLe, iLt, iGe, iGt, dMul, iMulT, iMul, iMod, iDiv, gIx, setIx, decide_true, decide_false, decide_eq_true_eq, Bool.not_eq_true, List.length_map, gets_ok, gets_bind, gets_ite, rsw_ite, rsw_seq, rsw_thn, rsw_nx, rsw_ret, rst_x, rsx_seq, rsx_nx, rsx_ret, rsx_brk, rsx_cont, rsx_ite, rsx_thn, gets_fnM, onlyP, Option.map_some, Src.items, h2]
        by_cases hq2 : q ∈ acc
        · rw [if_neg (fun z => z.2 hq2)] at he
          simp only [hq2, mVar, mK, mBin, mUn, mTru, mTest, mAnd, mOr, mNot, mAndV, mOrV, mNotV, mIf, mNil, mCons, mTup, mLst, mLstF, mCall, mChain, mIsi, fIsi, tyD, tyP, mSlice, oNo, oSome, mSeq, srcOf, mRange1, mRange2, sNext, sSeq, sIf, sRet, sRetN, sExpr, sSet, sAsg, sAug, sFor, sRaise, gSet, gMore, gNone, Mp.gTup, mMeth, fAppend, mEnum, srcEnum, mDNew, fLen, fInt, truth, ptruth, asB, pp1, pp2, ret1, dIs, isN, allP, frzD, mFrz, List.map_cons, List.map_nil, List.cons_append, List.nil_append, List.length_cons, List.length_nil, List.getElem?_cons_zero, List.getElem?_cons_succ, List.getElem?_nil, List.set_cons_zero, List.set_cons_succ, if_true, ite_true, Nat.reduceAdd, Nat.reduceSub, List.replicate, Bool.false_eq_true, if_false, Bool.not_true, Bool.not_false, mp_ft, mp_tf, isTy, beq_self_eq_true, isi0, isi1, isi2, isi3, isi4, isi5, isi6, isi7, isi8, isi9, isi10, isi11, isi12, isi13, isi14, isi15, isi16, isi17, isi18, isi19, isi20, isi21, isi22, isi23, isi24, isi25, isi26, isi27, isi28, isi29, isi30, isi31, isi32, isi33, isi34, isi35, isi36, isi37, isi38, isi39, isi40, isi41, onlyF, dIx_tup, dIx_lst, dIx_ref, ixAt_0, ixAt_1, ixAt_2, ixAt_3, iEq_int, iNe_int, dAdd, iAdd, iSub, iNeg, iCmp, iLe, iLt, iGe, iGt, dMul, iMulT, iMul, iMod, iDiv, gIx, setIx, decide_true, decide_false, decide_eq_true_eq, Bool.not_eq_true, List.length_map, gets_ok, gets_bind, gets_ite, rsw_ite, rsw_seq, rsw_thn, rsw_nx, rsw_ret, rst_x, rsx_seq, rsx_nx, rsx_ret, rsx_brk, rsx_cont, rsx_ite, rsx_thn, gets_fnM, onlyP, Option.map_some, Src.items]
          exact ⟨r1, acc, _, rfl, he, by omega, rfl, rfl⟩
        · rw [if_pos ⟨hq, hq2⟩] at he
          simp only [hq2, mVar, mK, mBin, mUn, mTru, mTest, mAnd, mOr, mNot, mAndV, mOrV, mNotV, mIf, mNil, mCons, mTup, mLst, mLstF, mCall, mChain, mIsi, fIsi, tyD, tyP, mSlice, oNo, oSome, mSeq, srcOf, mRange1, mRange2, sNext, sSeq, sIf, sRet, sRetN, sExpr, sSet, sAsg, sAug, sFor, sRaise, gSet, gMore, gNone, Mp.gTup, mMeth, fAppend, mEnum, srcEnum, mDNew, fLen, fInt, truth, ptruth, asB, pp1, pp2, ret1, dIs, isN, allP, frzD, mFrz, List.map_cons, List.map_nil, List.cons_append, List.nil_append, List.length_cons, List.length_nil, List.getElem?_cons_zero, List.getElem?_cons_succ, List.getElem?_nil, List.set_cons_zero, List.set_cons_succ, if_true, ite_true, Nat.reduceAdd, Nat.reduceSub, List.replicate, Bool.false_eq_true, if_false, Bool.not_true, Bool.not_false, mp_ft, mp_tf, isTy, beq_self_eq_true, isi0, isi1, isi2, isi3, isi4, isi5, isi6, isi7, isi8, isi9, isi10, isi11, isi12, isi13, isi14, isi15, isi16, isi17, isi18, isi19, isi20, isi21, isi22, isi23, isi24, isi25, isi26, isi27, isi28, isi29, isi30, isi31, isi32, isi33, isi34, isi35, isi36, isi37, isi38, isi39, isi40, isi41, onlyF, dIx_tup, dIx_lst, dIx_ref, ixAt_0, ixAt_1, ixAt_2, ixAt_3, iEq_int, iNe_int, dAdd, iAdd, iSub, iNeg, iCmp, iLe, iLt, iGe, iGt, dMul, iMulT, iMul, iMod, iDiv, gIx, setIx, decide_true, decide_false, decide_eq_true_eq, Bool.not_eq_true, List.length_map, gets_ok, gets_bind, gets_ite, rsw_ite, rsw_seq, rsw_thn, rsw_nx, rsw_ret, rst_x, rsx_seq, rsx_nx, rsx_ret, rsx_brk, rsx_cont, rsx_ite, rsx_thn, gets_fnM, onlyP, Option.map_some, Src.items, zz]
          exact ⟨r1, acc ++ [q], _, rfl, he, by simp; omega, by simp, rfl⟩
  · rintro e s' ⟨r1, acc, e3, hx, he, hl, rfl, rfl⟩
    cases r1 with
    | cons c t1 => cases hx
    | nil =>
      simp only [freshL] at he
      subst he
      simp only [mVar, mK, mBin, mUn, mTru, mTest, mAnd, mOr, mNot, mAndV, mOrV, mNotV, mIf, mNil, mCons, mTup, mLst, mLstF, mCall, mChain, mIsi, fIsi, tyD, tyP, mSlice, oNo, oSome, mSeq, srcOf, mRange1, mRange2, sNext, sSeq, sIf, sRet, sRetN, sExpr, sSet, sAsg, sAug, sFor, sRaise, gSet, gMore, gNone, Mp.gTup, mMeth, fAppend, mEnum, srcEnum, mDNew, fLen, fInt, truth, ptruth, asB, pp1, pp2, ret1, dIs, isN, allP, frzD, mFrz, List.map_cons, List.map_nil, List.cons_append, List.nil_append, List.length_cons, List.length_nil, List.getElem?_cons_zero, List.getElem?_cons_succ, List.getElem?_nil, List.set_cons_zero, List.set_cons_succ, if_true, ite_true, Nat.reduceAdd, Nat.reduceSub, List.replicate, Bool.false_eq_true, if_false, Bool.not_true, Bool.not_false, mp_ft, mp_tf, isTy, beq_self_eq_true, isi0, isi1, isi2, isi3, isi4, isi5, isi6, isi7, isi8, isi9, isi10, isi11, isi12, isi13, isi14, isi15, isi16, isi17, isi18, isi19, isi20, isi21, isi22, isi23, isi24, isi25, isi26, isi27, isi28, isi29, isi30, isi31, isi32, isi33, isi34, isi35, isi36, isi37, isi38, isi39, isi40, isi41, onlyF, dIx_tup, dIx_lst, dIx_ref, ixAt_0, ixAt_1, ixAt_2, ixAt_3, iEq_int, iNe_int, dAdd, iAdd, iSub, iNeg, iCmp, iLe, iLt, iGe, iGt, dMul, iMulT, iMul, iMod, iDiv, gIx, setIx, decide_true, decide_false, decide_eq_true_eq, Bool.not_eq_true, List.length_map, gets_ok, gets_bind, gets_ite, rsw_ite, rsw_seq, rsw_thn, rsw_nx, rsw_ret, rst_x, rsx_seq, rsx_nx, rsx_ret, rsx_brk, rsx_cont, rsx_ite, rsx_thn, gets_fnM, onlyP, Option.map_some, Src.items, allP_map]
      exact ⟨trivial, trivial⟩

/-! _law_reached -/
theorem sc__law_reached : FnScope ["_law_rows", "_law_begin", "_law_found", "_law_at"] ["_law_rows", "_law_begin"] (defScope t__law_reached) := ⟨rfl, rfl, rfl, by decide +kernel, rfl, by decide +kernel, by decide +kernel⟩
theorem bn__law_reached : BindN "_law_reached" t__law_reached ["_law_rows", "_law_begin"] := fun _ _ _ _ _ _ us hl => match us, hl with | [_, _], _ => rfl
noncomputable def b__law_reached : MS := (sSeq (sSet 2 (mLstF (mCons (mVar 1) mNil))) (sSeq (sFor (mRange1 (mCall fLen (mCons (mVar 0) mNil))) (gSet 3) (sIf (mTest (mBin (pp2 iLt) (mVar 3) (mCall fLen (mCons (mVar 2) mNil)))) (sSet 2 (mBin dCatF (mVar 2) (mCall M__law_fresh (mCons (mVar 2) (mCons (mCall M__law_nexts (mCons (mBin dIx (mVar 0) (mBin dIx (mVar 2) (mVar 3))) mNil)) mNil))))) sNext)) (sRet (mVar 2))))
theorem raw__law_reached (N : Nm K mg) : DefOk P w K mg base "_law_reached" 2 2 (fnM 2 4 b__law_reached) := def_mk N.d__law_reached sc__law_reached bn__law_reached rfl rfl fun f cdv A outer s H E hr nd tk hp => (ss_cons (s_set (i := 2) nd (e_lstF (a_cons (e_var (i := 1)) a_nil))) (ss_cons (s_for hp rfl (i_range1 rfl N.f_range (e_bi b_len rfl N.f_len bt_len (a_cons (e_var (i := 0)) a_nil))) (g_name (i := 3) nd) (ss_one (s_if (t_cmp o_ltP (e_var (i := 3)) (e_bi b_len rfl N.f_len bt_len (a_cons (e_var (i := 2)) a_nil)) (nomark _)) (ss_one (s_set (i := 2) nd (e_catF (e_var (i := 2)) (e_callS (ok__law_fresh N) hr (by decide) tk (a_cons (e_var (i := 2)) (a_cons (e_callS (ok__law_nexts N) hr (by decide) tk (a_cons (e_ix (e_var (i := 0)) (e_ix (e_var (i := 2)) (e_var (i := 3)))) a_nil) (argN_cons argN_nil)) a_nil)) (argN_cons (argN_cons argN_nil)))))) ss_nil))) (ss_one (s_ret (e_var (i := 2))))))
theorem Mx__law_reached : ∃ f : List D → S → R D, f = pureRun (fnM 2 4 b__law_reached) := ⟨_, rfl⟩
noncomputable def M__law_reached : List D → S → R D := Classical.choose Mx__law_reached
theorem Me__law_reached : M__law_reached = pureRun (fnM 2 4 b__law_reached) := Classical.choose_spec Mx__law_reached
theorem ok__law_reached (N : Nm K mg) : DefOk P w K mg base "_law_reached" 2 2 M__law_reached := by rw [Me__law_reached]; exact (raw__law_reached N).alone
theorem lreached_eq {m : Mac} (hm : m.Ok) {b : Nat} (hb : b < m.rs.length) {s : S} : ∃ x, (∃ fs : List Nat, x = .list (fs.map eN) ∧ fs.Nodup ∧ ∀ q, q ∈ fs ↔ m.Rch b q) ∧ M__law_reached [.p (.tuple (m.rs.map eR)), .p (.int (b : Int))] s = .ok (.p x) s := by
  rw [Me__law_reached]; refine pure_ex rfl ?_
  have z1 : Mp.sizeOk 1 = true := by decide
  have h30 := hm.r30
  have ro : rngOk 0 (m.rs.length : Int) := rngOk_of (by omega) (by omega) (by omega) (by omega)
  have bound : ∀ fs : List Nat, fs.Nodup → (∀ x ∈ fs, m.Rch b x) → fs.length ≤ m.rs.length := fun fs nd h => nd_len nd fun x hx => (h x hx).lt hm hb
  simp only [b__law_reached, mVar, mK, mBin, mUn, mTru, mTest, mAnd, mOr, mNot, mAndV, mOrV, mNotV, mIf, mNil, mCons, mTup, mLst, mLstF, mCall, mChain, mIsi, fIsi, tyD, tyP, mSlice, oNo, oSome, mSeq, srcOf, mRange1, mRange2, sNext, sSeq, sIf, sRet, sRetN, sExpr, sSet, sAsg, sAug, sFor, sRaise, gSet, gMore, gNone, Mp.gTup, mMeth, fAppend, mEnum, srcEnum, mDNew, fLen, fInt, truth, ptruth, asB, pp1, pp2, ret1, dIs, isN, allP, frzD, mFrz, List.map_cons, List.map_nil, List.cons_append, List.nil_append, List.length_cons, List.length_nil, List.getElem?_cons_zero, List.getElem?_cons_succ, List.getElem?_nil, List.set_cons_zero, List.set_cons_succ, if_true, ite_true, Nat.reduceAdd, Nat.reduceSub, List.replicate, Bool.false_eq_true, if_false, Bool.not_true, Bool.not_false, mp_ft, mp_tf, isTy, beq_self_eq_true, isi0, isi1, isi2, isi3, isi4, isi5, isi6, isi7, isi8, isi9, isi10, isi11, isi12, isi13, isi14, isi15, isi16, isi17, isi18, isi19, isi20, isi21, isi22, isi23, isi24, isi25, isi26, isi27, isi28, isi29, isi30, isi31, isi32, isi33, isi34, isi35, isi36, isi37, isi38, isi39, isi40, isi41, onlyF, dIx_tup, dIx_lst, dIx_ref, ixAt_0, ixAt_1, ixAt_2, ixAt_3, iEq_int, iNe_int, dAdd, iAdd, iSub, iNeg, iCmp, iLe, iLt, iGe, iGt, dMul, iMulT, iMul, iMod, iDiv, gIx, setIx, decide_true, decide_false, decide_eq_true_eq, Bool.not_eq_true, List.length_map, gets_ok, gets_bind, gets_ite, rsw_ite, rsw_seq, rsw_thn, rsw_nx, rsw_ret, rst_x, rsx_seq, rsx_nx, rsx_ret, rsx_brk, rsx_cont, rsx_ite, rsx_thn, gets_fnM, onlyP, Option.map_some, Src.items, z1, ro, rng0, Int.toNat_natCast]
  refine for_gets (J := fun xs e s' => ∃ (k : Nat) (fs : List Nat) (e3 : Option D), xs = ((List.range m.rs.length).drop k).map (fun q => D.p (eN q)) ∧ k ≤ m.rs.length ∧ fs.Nodup ∧ (∀ x ∈ fs, m.Rch b x) ∧ b ∈ fs ∧ (∀ i, i < k → ∀ q, fs[i]? = some q → ∀ r ∈ m.nx q, r ∈ fs) ∧ s' = ⟨[], s.w⟩ ∧
    e = [some (.p (.tuple (m.rs.map eR))), some (.p (.int (b : Int))), some (.p (.list (fs.map eN))), e3]) (fun _ _ _ _ => trivial) ?_ ?_ _ _ _ ⟨0, [b], none, by simp, Nat.zero_le _, by simp, by simpa using Mac.Rch.refl b, by simp, (fun i hi => absurd hi (Nat.not_lt_zero i)), rfl, rfl⟩
  · rintro x xs e s' ⟨k, fs, e3, hx, hk, nd, hr, hbf, hc, rfl, rfl⟩
    by_cases hkl : k < m.rs.length
    rotate_left
    · rw [List.drop_of_length_le (by simpa using hkl)] at hx
      cases hx
    · rw [List.drop_eq_getElem_cons (by simpa using hkl)] at hx
      simp only [List.map_cons, List.getElem_range] at hx
      obtain ⟨rfl, rfl⟩ := List.cons.inj hx
      have hbd := bound fs nd hr
      simp only [mVar, mK, mBin, mUn, mTru, mTest, mAnd, mOr, mNot, mAndV, mOrV, mNotV, mIf, mNil, mCons, mTup, mLst, mLstF, mCall, mChain, mIsi, fIsi, tyD, tyP, mSlice, oNo, oSome, mSeq, srcOf, mRange1, mRange2, sNext, sSeq, sIf, sRet, sRetN, sExpr, sSet, sAsg, sAug, sFor, sRaise, gSet, gMore, gNone, Mp.gTup, mMeth, fAppend, mEnum, srcEnum, mDNew, fLen, fInt, truth, ptruth, asB, pp1, pp2, ret1, dIs, isN, allP, frzD, mFrz, List.map_cons, List.map_nil, List.cons_append, List.nil_append, List.length_cons, List.length_nil, List.getElem?_cons_zero, List.getElem?_cons_succ, List.getElem?_nil, List.set_cons_zero, List.set_cons_succ, if_true, ite_true, Nat.reduceAdd, Nat.reduceSub, List.replicate, Bool.false_eq_true, if_false, Bool.not_true, Bool.not_false, mp_ft, mp_tf, isTy, beq_self_eq_true, isi0, isi1, isi2, isi3, isi4, isi5, isi6, isi7, isi8, isi9, isi10, isi11, isi12, isi13, isi14, isi15, isi16, isi17, isi18, isi19, isi20, isi21, isi22, isi23, isi24, isi25, isi26, isi27, isi28, isi29, isi30, isi31, isi32, isi33, isi34, isi35, isi36, isi37, isi38, isi39, isi40, isi41, onlyF, dIx_tup, dIx_lst, dIx_ref, ixAt_0, ixAt_1, ixAt_2, ixAt_3, iEq_int, iNe_int, dAdd, iAdd, iSub, iNeg, iCmp, iLe, iLt, iGe, iGt, dMul, iMulT, iMul, iMod, iDiv, gIx, setIx, decide_true, decide_false, decide_eq_true_eq, Bool.not_eq_true, List.length_map, gets_ok, gets_bind, gets_ite, rsw_ite, rsw_seq, rsw_thn, rsw_nx, rsw_ret, rst_x, rsx_seq, rsx_nx, rsx_ret, rsx_brk, rsx_cont, rsx_ite, rsx_thn, gets_fnM, onlyP, Option.map_some, Src.items, eN]
      by_cases hlt : k < fs.length
      · have hlt' : (k : Int) < (fs.length : Int) := by omega
        have hqr := hr fs[k] (List.getElem_mem hlt)
        have hqn := hqr.lt hm hb
        have hrow := hm.row hqn
        have h8 := hm.n8
        have hix : ixAt (fs.map eN) (k : Int) = some (eN fs[k]) := by rw [ixAt_nat (by simpa using hlt)]; simp
        obtain ⟨f1, f2, f3, f4⟩ := freshL_spec (fs := fs) (xs := m.nx fs[k]) (acc := []) List.nodup_nil (by simp)
        have hnl : (m.nx fs[k]).length ≤ 8 := by
          unfold Mac.nx
          have := List.length_filterMap_le (fun s : MSt => s.map (·.2)) (m.row fs[k]).ss
          rw [hrow.len] at this
          omega
        have zc : Mp.sizeOk ((fs.map eN).length + ((freshL fs (m.nx fs[k]) []).map eN).length) = true := sizeOk_of (by simp at f4 ⊢; omega)
        have en := nexts_eq (r := m.row fs[k]) (by rw [hrow.len]; omega) (s := ⟨[], s.w⟩)
        have ef := fresh_eq (fs := fs) (ms := m.nx fs[k]) (by omega) (s := ⟨[], s.w⟩)
        rw [show ((m.row fs[k]).ss.filterMap fun s => s.map (·.2)) = m.nx fs[k] from rfl] at en
        simp only [List.length_map] at zc
        simp only [hlt', mVar, mK, mBin, mUn, mTru, mTest, mAnd, mOr, mNot, mAndV, mOrV, mNotV, mIf, mNil, mCons, mTup, mLst, mLstF, mCall, mChain, mIsi, fIsi, tyD, tyP, mSlice, oNo, oSome, mSeq, srcOf, mRange1, mRange2, sNext, sSeq, sIf, sRet, sRetN, sExpr, sSet, sAsg, sAug, sFor, sRaise, gSet, gMore, gNone, Mp.gTup, mMeth, fAppend, mEnum, srcEnum, mDNew, fLen, fInt, truth, ptruth, asB, pp1, pp2, ret1, dIs, isN, allP, frzD, mFrz, List.map_cons, List.map_nil, List.cons_append, List.nil_append, List.length_cons, List.length_nil, List.getElem?_cons_zero, List.getElem?_cons_succ, List.getElem?_nil, List.set_cons_zero, List.set_cons_succ, if_true, ite_true, Nat.reduceAdd, Nat.reduceSub, List.replicate, Bool.false_eq_true, if_false, Bool.not_true, Bool.not_false, mp_ft, mp_tf, isTy, beq_self_eq_true, isi0, isi1, isi2, isi3, isi4, isi5, isi6, isi7, isi8, isi9, isi10, isi11, isi12, isi13, isi14, isi15, isi16, isi17, isi18, isi19, isi20, isi21, isi22, isi23, isi24, isi25, isi26, isi27, isi28, isi29, isi30, isi31, isi32, isi33, isi34, isi35, isi36, isi37, isi38, isi39, isi40, isi41, onlyF, dIx_tup, dIx_lst, dIx_ref, ixAt_0, ixAt_1, ixAt_2, ixAt_3, iEq_int, iNe_int, dAdd, iAdd, iSub, iNeg, iCmp, iLe, iLt, iGe, iGt, dMul, iMulT, iMul, iMod, iDiv, gIx, setIx, decide_true, decide_false, decide_eq_true_eq, Bool.not_eq_true, List.length_map, gets_ok, gets_bind, gets_ite, rsw_ite, rsw_seq, rsw_thn, rsw_nx, rsw_ret, rst_x, rsx_seq, rsx_nx, rsx_ret, rsx_brk, rsx_cont, rsx_ite, rsx_thn, gets_fnM, onlyP, Option.map_some, Src.items, hix, eN, ix_rs hqn, en, ef, dCatF, lstP, zc]
        have nd2 : (fs ++ freshL fs (m.nx fs[k]) []).Nodup := by
          rw [List.nodup_append]
          exact ⟨nd, f1, fun a ha c hc e => f2 c hc (e ▸ ha)⟩
        refine ⟨k + 1, fs ++ freshL fs (m.nx fs[k]) [], _, rfl, hkl, nd2, ?_, by simp [hbf], ?_, trivial, by rw [List.map_append]⟩
        · intro x hx
          rcases List.mem_append.mp hx with h | h
          · exact hr x h
          · rcases (f3 x).mp h with h | h
            · simp at h
            · exact hqr.step h.1
        · intro i hi q hq r hrn
          rcases Nat.lt_succ_iff_lt_or_eq.mp hi with h | rfl
          · rw [List.getElem?_append_left (by omega)] at hq
            exact List.mem_append_left _ (hc i h q hq r hrn)
          · rw [List.getElem?_append_left hlt, List.getElem?_eq_getElem hlt] at hq
            cases hq
            by_cases z : r ∈ fs
            · exact List.mem_append_left _ z
            · exact List.mem_append_right _ ((f3 r).mpr (.inr ⟨hrn, z⟩))
      · have hlt' : ¬ ((k : Int) < (fs.length : Int)) := by omega
        simp only [hlt', mVar, mK, mBin, mUn, mTru, mTest, mAnd, mOr, mNot, mAndV, mOrV, mNotV, mIf, mNil, mCons, mTup, mLst, mLstF, mCall, mChain, mIsi, fIsi, tyD, tyP, mSlice, oNo, oSome, mSeq, srcOf, mRange1, mRange2, sNext, sSeq, sIf, sRet, sRetN, sExpr, sSet, sAsg, sAug, sFor, sRaise, gSet, gMore, gNone, Mp.gTup, mMeth, fAppend, mEnum, srcEnum, mDNew, fLen, fInt, truth, ptruth, asB, pp1, pp2, ret1, dIs, isN, allP, frzD, mFrz, List.map_cons, List.map_nil, List.cons_append, List.nil_append, List.length_cons, List.length_nil, List.getElem?_cons_zero, List.getElem?_cons_succ, List.getElem?_nil, List.set_cons_zero, List.set_cons_succ, if_true, ite_true, Nat.reduceAdd, Nat.reduceSub, List.replicate, Bool.false_eq_true, if_false, Bool.not_true, Bool.not_false, mp_ft, mp_tf, isTy, beq_self_eq_true, isi0, isi1, isi2, isi3, isi4, isi5, isi6, isi7, isi8, isi9, isi10, isi11, isi12, isi13, isi14, isi15, isi16, isi17, isi18, isi19, isi20, isi21, isi22, isi23, isi24, isi25, isi26, isi27, isi28, isi29, isi30, isi31, isi32, isi33, isi34, isi35, isi36, isi37, isi38, isi39, isi40, isi41, onlyF, dIx_tup, dIx_lst, dIx_ref, ixAt_0, ixAt_1, ixAt_2, ixAt_3, iEq_int, iNe_int, dAdd, iAdd, iSub, iNeg, iCmp, iLe, iLt, iGe, iGt, dMul, iMulT, iMul, iMod, iDiv, gIx, setIx, decide_true, decide_false, decide_eq_true_eq, Bool.not_eq_true, List.length_map, gets_ok, gets_bind, gets_ite, rsw_ite, rsw_seq, rsw_thn, rsw_nx, rsw_ret, rst_x, rsx_seq, rsx_nx, rsx_ret, rsx_brk, rsx_cont, rsx_ite, rsx_thn, gets_fnM, onlyP, Option.map_some, Src.items]
        refine ⟨k + 1, fs, _, rfl, hkl, nd, hr, hbf, fun i hi q hq => hc i ?_ q hq, trivial, rfl⟩
        have := (List.getElem?_eq_some_iff.mp hq).1
        omega
  · rintro e s' ⟨k, fs, e3, hx, hk, nd, hr, hbf, hc, rfl, rfl⟩
    have hkl : k = m.rs.length := by
      have := congrArg List.length hx
      simp at this
      omega
    subst hkl
    simp only [mVar, mK, mBin, mUn, mTru, mTest, mAnd, mOr, mNot, mAndV, mOrV, mNotV, mIf, mNil, mCons, mTup, mLst, mLstF, mCall, mChain, mIsi, fIsi, tyD, tyP, mSlice, oNo, oSome, mSeq, srcOf, mRange1, mRange2, sNext, sSeq, sIf, sRet, sRetN, sExpr, sSet, sAsg, sAug, sFor, sRaise, gSet, gMore, gNone, Mp.gTup, mMeth, fAppend, mEnum, srcEnum, mDNew, fLen, fInt, truth, ptruth, asB, pp1, pp2, ret1, dIs, isN, allP, frzD, mFrz, List.map_cons, List.map_nil, List.cons_append, List.nil_append, List.length_cons, List.length_nil, List.getElem?_cons_zero, List.getElem?_cons_succ, List.getElem?_nil, List.set_cons_zero, List.set_cons_succ, if_true, ite_true, Nat.reduceAdd, Nat.reduceSub, List.replicate, Bool.false_eq_true, if_false, Bool.not_true, Bool.not_false, mp_ft, mp_tf, isTy, beq_self_eq_true, isi0, isi1, isi2, isi3, isi4, isi5, isi6, isi7, isi8, isi9, isi10, isi11, isi12, isi13, isi14, isi15, isi16, isi17, isi18, isi19, isi20, isi21, isi22, isi23, isi24, isi25, isi26, isi27, isi28, isi29, isi30, isi31, isi32, isi33, isi34, isi35, isi36, isi37, isi38, isi39, isi40, isi41, onlyF, dIx_tup, dIx_lst, dIx_ref, ixAt_0, ixAt_1, ixAt_2, ixAt_3, iEq_int, iNe_int, dAdd, iAdd, iSub, iNeg, iCmp, iLe, iLt, iGe, iGt, dMul, iMulT, iMul, iMod, iDiv, gIx, setIx, decide_true, decide_false, decide_eq_true_eq, Bool.not_eq_true, List.length_map, gets_ok, gets_bind, gets_ite, rsw_ite, rsw_seq, rsw_thn, rsw_nx, rsw_ret, rst_x, rsx_seq, rsx_nx, rsx_ret, rsx_brk, rsx_cont, rsx_ite, rsx_thn, gets_fnM, onlyP, Option.map_some, Src.items]
    refine ⟨trivial, _, rfl, fs, rfl, nd, fun q => ⟨hr q, fun z => z.closed (fun x hx r hrn => ?_) hbf⟩⟩
    obtain ⟨i, hi, rfl⟩ := List.mem_iff_getElem.mp hx
    exact hc i (by have := bound fs nd hr; omega) fs[i] (List.getElem?_eq_getElem hi) r hrn

/-! _law_ends -/
theorem sc__law_ends : FnScope ["_law_rows", "_law_state", "_law_other"] ["_law_rows", "_law_state"] (defScope t__law_ends) := ⟨rfl, rfl, rfl, by decide +kernel, rfl, by decide +kernel, by decide +kernel⟩
theorem bn__law_ends : BindN "_law_ends" t__law_ends ["_law_rows", "_law_state"] := fun _ _ _ _ _ _ us hl => match us, hl with | [_, _], _ => rfl
noncomputable def b__law_ends : MS := (sRet (mCall fAny (mCons (mLc (mSeq (mCall M__law_reached (mCons (mVar 0) (mCons (mVar 1) mNil)))) [2] (gSet 2) mYes (mBin (dIs false) (mBin dIx (mBin dIx (mVar 0) (mVar 2)) (mK (.int 0))) (mK .none)) kFrz) mNil)))
theorem raw__law_ends (N : Nm K mg) : DefOk P w K mg base "_law_ends" 3 2 (fnM 2 3 b__law_ends) := def_mk N.d__law_ends sc__law_ends bn__law_ends rfl rfl fun f cdv A outer s H E hr nd tk hp => (ss_one (s_ret (e_bi (b_any rfl) rfl N.f_any bt_any (a_cons (e_lcF (own := [("_law_other", 2)]) rfl nd (i_seq (e_callS (ok__law_reached N) hr (by decide) tk (a_cons (e_var (i := 0)) (a_cons (e_var (i := 1)) a_nil)) (argN_cons (argN_cons argN_nil)))) (blkOk_by (N := ["_law_rows", "_law_state", "_law_other"]) (sc := defScope t__law_ends) (own := [("_law_other", 2)]) (by decide +kernel)) (tg_name (i := 2) (by decide)) (fun _ _ _ _ _ => pg_name (i := 2) nd rfl (by first | exact Or.inl rfl | exact Or.inr rfl)) (fun _ _ _ _ _ => c_no) (fun _ _ _ _ _ => (e_cmp o_isnot (e_ix (e_ix (e_var (i := 0)) (e_var (i := 2))) e_int) e_none (nomark _)))) a_nil))))
theorem Mx__law_ends : ∃ f : List D → S → R D, f = pureRun (fnM 2 3 b__law_ends) := ⟨_, rfl⟩
noncomputable def M__law_ends : List D → S → R D := Classical.choose Mx__law_ends
theorem Me__law_ends : M__law_ends = pureRun (fnM 2 3 b__law_ends) := Classical.choose_spec Mx__law_ends
theorem ok__law_ends (N : Nm K mg) : DefOk P w K mg base "_law_ends" 3 2 M__law_ends := by rw [Me__law_ends]; exact (raw__law_ends N).alone
open Classical in
theorem ends_eq {m : Mac} (hm : m.Ok) {b : Nat} (hb : b < m.rs.length) {s : S} : M__law_ends [.p (.tuple (m.rs.map eR)), .p (.int (b : Int))] s = .ok (.p (.bool (decide (m.Coe b)))) s := by
  rw [Me__law_ends]; refine pure_eq rfl ?_
  have h30 := hm.r30
  obtain ⟨_, ⟨fs, rfl, nd, mem⟩, er⟩ := lreached_eq hm hb (s := ⟨[], s.w⟩)
  have zl : Mp.sizeOk fs.length = true := sizeOk_of (by
    have := nd_len (n := m.rs.length) nd fun x hx => ((mem x).mp hx).lt hm hb
    omega)
  simp only [b__law_ends, mVar, mK, mBin, mUn, mTru, mTest, mAnd, mOr, mNot, mAndV, mOrV, mNotV, mIf, mNil, mCons, mTup, mLst, mLstF, mCall, mChain, mIsi, fIsi, tyD, tyP, mSlice, oNo, oSome, mSeq, srcOf, mRange1, mRange2, sNext, sSeq, sIf, sRet, sRetN, sExpr, sSet, sAsg, sAug, sFor, sRaise, gSet, gMore, gNone, Mp.gTup, mMeth, fAppend, mEnum, srcEnum, mDNew, fLen, fInt, truth, ptruth, asB, pp1, pp2, ret1, dIs, isN, allP, frzD, mFrz, List.map_cons, List.map_nil, List.cons_append, List.nil_append, List.length_cons, List.length_nil, List.getElem?_cons_zero, List.getElem?_cons_succ, List.getElem?_nil, List.set_cons_zero, List.set_cons_succ, if_true, ite_true, Nat.reduceAdd, Nat.reduceSub, List.replicate, Bool.false_eq_true, if_false, Bool.not_true, Bool.not_false, mp_ft, mp_tf, isTy, beq_self_eq_true, isi0, isi1, isi2, isi3, isi4, isi5, isi6, isi7, isi8, isi9, isi10, isi11, isi12, isi13, isi14, isi15, isi16, isi17, isi18, isi19, isi20, isi21, isi22, isi23, isi24, isi25, isi26, isi27, isi28, isi29, isi30, isi31, isi32, isi33, isi34, isi35, isi36, isi37, isi38, isi39, isi40, isi41, onlyF, dIx_tup, dIx_lst, dIx_ref, ixAt_0, ixAt_1, ixAt_2, ixAt_3, iEq_int, iNe_int, dAdd, iAdd, iSub, iNeg, iCmp, iLe, iLt, iGe, iGt, dMul, iMulT, iMul, iMod, iDiv, gIx, setIx, decide_true, decide_false, decide_eq_true_eq, Bool.not_eq_true, List.length_map, gets_ok, gets_bind, gets_ite, rsw_ite, rsw_seq, rsw_thn, rsw_nx, rsw_ret, rst_x, rsx_seq, rsx_nx, rsx_ret, rsx_brk, rsx_cont, rsx_ite, rsx_thn, gets_fnM, onlyP, Option.map_some, Src.items, er, mLc, wipeE, zl, map_map]
  rw [lc_map (f := fun q : Nat => D.p (.bool (m.row q).fin.isSome)) trivial (fun q hq => by
    have hqn := ((mem q).mp hq).lt hm hb
    simp only [pureRun, onlyP, fnM, mVar, mK, mBin, mUn, mTru, mTest, mAnd, mOr, mNot, mAndV, mOrV, mNotV, mIf, mNil, mCons, mTup, mLst, mLstF, mCall, mChain, mIsi, fIsi, tyD, tyP, mSlice, oNo, oSome, mSeq, srcOf, mRange1, mRange2, sNext, sSeq, sIf, sRet, sRetN, sExpr, sSet, sAsg, sAug, sFor, sRaise, gSet, gMore, gNone, Mp.gTup, mMeth, fAppend, mEnum, srcEnum, mDNew, fLen, fInt, truth, ptruth, asB, pp1, pp2, ret1, dIs, isN, allP, frzD, mFrz, Mp.R.bind, R.thn, RS.seq, List.map_cons, List.map_nil, List.cons_append, List.nil_append, List.length_cons, List.length_nil, List.getElem?_cons_zero, List.getElem?_cons_succ, List.getElem?_nil, List.set_cons_zero, List.set_cons_succ, if_true, ite_true, Nat.reduceAdd, Nat.reduceSub, List.replicate, Bool.false_eq_true, if_false, Bool.not_true, Bool.not_false, mp_ft, mp_tf, isTy, beq_self_eq_true, isi0, isi1, isi2, isi3, isi4, isi5, isi6, isi7, isi8, isi9, isi10, isi11, isi12, isi13, isi14, isi15, isi16, isi17, isi18, isi19, isi20, isi21, isi22, isi23, isi24, isi25, isi26, isi27, isi28, isi29, isi30, isi31, isi32, isi33, isi34, isi35, isi36, isi37, isi38, isi39, isi40, isi41, onlyF, dIx_tup, dIx_lst, dIx_ref, ixAt_0, ixAt_1, ixAt_2, ixAt_3, iEq_int, iNe_int, dAdd, iAdd, iSub, iNeg, iCmp, iLe, iLt, iGe, iGt, dMul, iMulT, iMul, iMod, iDiv, gIx, setIx, decide_true, decide_false, decide_eq_true_eq, Bool.not_eq_true, List.length_map, eN, ix_rs hqn, ix_R0]
    cases (m.row q).fin <;> rfl)]
  simp only [mVar, mK, mBin, mUn, mTru, mTest, mAnd, mOr, mNot, mAndV, mOrV, mNotV, mIf, mNil, mCons, mTup, mLst, mLstF, mCall, mChain, mIsi, fIsi, tyD, tyP, mSlice, oNo, oSome, mSeq, srcOf, mRange1, mRange2, sNext, sSeq, sIf, sRet, sRetN, sExpr, sSet, sAsg, sAug, sFor, sRaise, gSet, gMore, gNone, Mp.gTup, mMeth, fAppend, mEnum, srcEnum, mDNew, fLen, fInt, truth, ptruth, asB, pp1, pp2, ret1, dIs, isN, allP, frzD, mFrz, List.map_cons, List.map_nil, List.cons_append, List.nil_append, List.length_cons, List.length_nil, List.getElem?_cons_zero, List.getElem?_cons_succ, List.getElem?_nil, List.set_cons_zero, List.set_cons_succ, if_true, ite_true, Nat.reduceAdd, Nat.reduceSub, List.replicate, Bool.false_eq_true, if_false, Bool.not_true, Bool.not_false, mp_ft, mp_tf, isTy, beq_self_eq_true, isi0, isi1, isi2, isi3, isi4, isi5, isi6, isi7, isi8, isi9, isi10, isi11, isi12, isi13, isi14, isi15, isi16, isi17, isi18, isi19, isi20, isi21, isi22, isi23, isi24, isi25, isi26, isi27, isi28, isi29, isi30, isi31, isi32, isi33, isi34, isi35, isi36, isi37, isi38, isi39, isi40, isi41, onlyF, dIx_tup, dIx_lst, dIx_ref, ixAt_0, ixAt_1, ixAt_2, ixAt_3, iEq_int, iNe_int, dAdd, iAdd, iSub, iNeg, iCmp, iLe, iLt, iGe, iGt, dMul, iMulT, iMul, iMod, iDiv, gIx, setIx, decide_true, decide_false, decide_eq_true_eq, Bool.not_eq_true, List.length_map, gets_ok, gets_bind, gets_ite, rsw_ite, rsw_seq, rsw_thn, rsw_nx, rsw_ret, rst_x, rsx_seq, rsx_nx, rsx_ret, rsx_brk, rsx_cont, rsx_ite, rsx_thn, gets_fnM, onlyP, Option.map_some, Src.items, kFrz, allP_map, fAny, lstP, Option.bind_some, Mp.allB_map]
  have key : ((fs.map fun q : Nat => (m.row q).fin.isSome).any id) = decide (m.Coe b) := by
    rw [Bool.eq_iff_iff, List.any_eq_true, decide_eq_true_eq]
    constructor
    · rintro ⟨x, hx, hxt⟩
      obtain ⟨q, hq, rfl⟩ := List.mem_map.mp hx
      refine ⟨q, (mem q).mp hq, fun z => ?_⟩
      rw [z] at hxt
      cases hxt
    · rintro ⟨q, hq, hf⟩
      refine ⟨_, List.mem_map.mpr ⟨q, (mem q).mpr hq, rfl⟩, ?_⟩
      cases h : (m.row q).fin with
      | none => exact absurd h hf
      | some _ => rfl
  rw [key]
  exact ⟨rfl, trivial⟩

/-! _law_kept_step -/
theorem sc__law_kept_step : FnScope ["_law_step_here", "_law_stay"] ["_law_step_here", "_law_stay"] (defScope t__law_kept_step) := ⟨rfl, rfl, rfl, by decide +kernel, rfl, by decide +kernel, by decide +kernel⟩
theorem bn__law_kept_step : BindN "_law_kept_step" t__law_kept_step ["_law_step_here", "_law_stay"] := fun _ _ _ _ _ _ us hl => match us, hl with | [_, _], _ => rfl
noncomputable def b__law_kept_step : MS := (sSeq (sIf (mOr (mTest (mBin (dIs true) (mVar 0) (mK .none))) (mTest (mBin dNotIn (mBin dIx (mVar 0) (mK (.int 1))) (mVar 1)))) (sRet (mK .none)) sNext) (sRet (mTup (mCons (mBin dIx (mVar 0) (mK (.int 0))) (mCons (mMeth "list" fIndex (mVar 1) (mCons (mBin dIx (mVar 0) (mK (.int 1))) mNil)) mNil)))))
theorem raw__law_kept_step (N : Nm K mg) : DefOk P w K mg base "_law_kept_step" 1 2 (fnM 2 2 b__law_kept_step) := def_mk N.d__law_kept_step sc__law_kept_step bn__law_kept_step rfl rfl fun f cdv A outer s H E hr nd tk hp => (ss_cons (s_if (t_w (w_or (t_cmp o_is (e_var (i := 0)) e_none (nomark _)) (w_or1 (t_cmp (o_notin (hu65 hr)) (e_ix (e_var (i := 0)) e_int) (e_var (i := 1)) rfl)))) (ss_one (s_ret e_none)) ss_nil) (ss_one (s_ret (e_tup (a_cons (e_ix (e_var (i := 0)) e_int) (a_cons (e_index (hu65 hr) (e_var (i := 1)) (a_cons (e_ix (e_var (i := 0)) e_int) a_nil)) a_nil))))))
theorem Mx__law_kept_step : ∃ f : List D → S → R D, f = pureRun (fnM 2 2 b__law_kept_step) := ⟨_, rfl⟩
noncomputable def M__law_kept_step : List D → S → R D := Classical.choose Mx__law_kept_step
theorem Me__law_kept_step : M__law_kept_step = pureRun (fnM 2 2 b__law_kept_step) := Classical.choose_spec Mx__law_kept_step
theorem ok__law_kept_step (N : Nm K mg) : DefOk P w K mg base "_law_kept_step" 1 2 M__law_kept_step := by rw [Me__law_kept_step]; exact (raw__law_kept_step N).alone
theorem kept_step_eq {l : List Nat} {st : MSt} {s : S} : M__law_kept_step [.p (eS st), .p (.list (l.map eN))] s = .ok (.p (eS (MSt.keep l st))) s := by
  rw [Me__law_kept_step]; refine pure_eq rfl ?_
  have z2 : Mp.sizeOk 2 = true := by decide
  cases st with
  | none =>
    simp only [b__law_kept_step, mVar, mK, mBin, mUn, mTru, mTest, mAnd, mOr, mNot, mAndV, mOrV, mNotV, mIf, mNil, mCons, mTup, mLst, mLstF, mCall, mChain, mIsi, fIsi, tyD, tyP, mSlice, oNo, oSome, mSeq, srcOf, mRange1, mRange2, sNext, sSeq, sIf, sRet, sRetN, sExpr, sSet, sAsg, sAug, sFor, sRaise, gSet, gMore, gNone, Mp.gTup, mMeth, fAppend, mEnum, srcEnum, mDNew, fLen, fInt, truth, ptruth, asB, pp1, pp2, ret1, dIs, isN, allP, frzD, mFrz, List.map_cons, List.map_nil, List.cons_append, List.nil_append, List.length_cons, List.length_nil, List.getElem?_cons_zero, List.getElem?_cons_succ, List.getElem?_nil, List.set_cons_zero, List.set_cons_succ, if_true, ite_true, Nat.reduceAdd, Nat.reduceSub, List.replicate, Bool.false_eq_true, if_false, Bool.not_true, Bool.not_false, mp_ft, mp_tf, isTy, beq_self_eq_true, isi0, isi1, isi2, isi3, isi4, isi5, isi6, isi7, isi8, isi9, isi10, isi11, isi12, isi13, isi14, isi15, isi16, isi17, isi18, isi19, isi20, isi21, isi22, isi23, isi24, isi25, isi26, isi27, isi28, isi29, isi30, isi31, isi32, isi33, isi34, isi35, isi36, isi37, isi38, isi39, isi40, isi41, onlyF, dIx_tup, dIx_lst, dIx_ref, ixAt_0, ixAt_1, ixAt_2, ixAt_3, iEq_int, iNe_int, dAdd, iAdd, iSub, iNeg, iCmp, iLe, iLt, iGe, iGt, dMul, iMulT, iMul, iMod, iDiv, gIx, setIx, decide_true, decide_false, decide_eq_true_eq, Bool.not_eq_true, List.length_map, gets_ok, gets_bind, gets_ite, rsw_ite, rsw_seq, rsw_thn, rsw_nx, rsw_ret, rst_x, rsx_seq, rsx_nx, rsx_ret, rsx_brk, rsx_cont, rsx_ite, rsx_thn, gets_fnM, onlyP, Option.map_some, Src.items, eS, MSt.keep, Option.bind_none]
    exact ⟨trivial, trivial⟩
  | some p =>
    have h1 : ∀ s : S, dNotIn (.p (.int (p.2 : Int))) (.p (.list (l.map eN))) s = .ok (.p (.bool (!decide (p.2 ∈ l)))) s := fun s => notin_list
    simp only [b__law_kept_step, mVar, mK, mBin, mUn, mTru, mTest, mAnd, mOr, mNot, mAndV, mOrV, mNotV, mIf, mNil, mCons, mTup, mLst, mLstF, mCall, mChain, mIsi, fIsi, tyD, tyP, mSlice, oNo, oSome, mSeq, srcOf, mRange1, mRange2, sNext, sSeq, sIf, sRet, sRetN, sExpr, sSet, sAsg, sAug, sFor, sRaise, gSet, gMore, gNone, Mp.gTup, mMeth, fAppend, mEnum, srcEnum, mDNew, fLen, fInt, truth, ptruth, asB, pp1, pp2, ret1, dIs, isN, allP, frzD, mFrz, List.map_cons, List.map_nil, List.cons_append, List.nil_append, List.length_cons, List.length_nil, List.getElem?_cons_zero, List.getElem?_cons_succ, List.getElem?_nil, List.set_cons_zero, List.set_cons_succ, if_true, ite_true, Nat.reduceAdd, Nat.reduceSub, List.replicate, Bool.false_eq_true, if_false, Bool.not_true, Bool.not_false, mp_ft, mp_tf, isTy, beq_self_eq_true, isi0, isi1, isi2, isi3, isi4, isi5, isi6, isi7, isi8, isi9, isi10, isi11, isi12, isi13, isi14, isi15, isi16, isi17, isi18, isi19, isi20, isi21, isi22, isi23, isi24, isi25, isi26, isi27, isi28, isi29, isi30, isi31, isi32, isi33, isi34, isi35, isi36, isi37, isi38, isi39, isi40, isi41, onlyF, dIx_tup, dIx_lst, dIx_ref, ixAt_0, ixAt_1, ixAt_2, ixAt_3, iEq_int, iNe_int, dAdd, iAdd, iSub, iNeg, iCmp, iLe, iLt, iGe, iGt, dMul, iMulT, iMul, iMod, iDiv, gIx, setIx, decide_true, decide_false, decide_eq_true_eq, Bool.not_eq_true, List.length_map, gets_ok, gets_bind, gets_ite, rsw_ite, rsw_seq, rsw_thn, rsw_nx, rsw_ret, rst_x, rsx_seq, rsx_nx, rsx_ret, rsx_brk, rsx_cont, rsx_ite, rsx_thn, gets_fnM, onlyP, Option.map_some, Src.items, eS, MSt.keep, Option.bind_some]
    simp only [mVar, mK, mBin, mUn, mTru, mTest, mAnd, mOr, mNot, mAndV, mOrV, mNotV, mIf, mNil, mCons, mTup, mLst, mLstF, mCall, mChain, mIsi, fIsi, tyD, tyP, mSlice, oNo, oSome, mSeq, srcOf, mRange1, mRange2, sNext, sSeq, sIf, sRet, sRetN, sExpr, sSet, sAsg, sAug, sFor, sRaise, gSet, gMore, gNone, Mp.gTup, mMeth, fAppend, mEnum, srcEnum, mDNew, fLen, fInt, truth, ptruth, asB, pp1, pp2, ret1, dIs, isN, allP, frzD, mFrz, List.map_cons, List.map_nil, List.cons_append, List.nil_append, List.length_cons, List.length_nil, List.getElem?_cons_zero, List.getElem?_cons_succ, List.getElem?_nil, List.set_cons_zero, List.set_cons_succ, if_true, ite_true, Nat.reduceAdd, Nat.reduceSub, List.replicate, Bool.false_eq_true, if_false, Bool.not_true, Bool.not_false, mp_ft, mp_tf, isTy, beq_self_eq_true, isi0, isi1, isi2, isi3, isi4, isi5, isi6, isi7, isi8, isi9, isi10, isi11, isi12, isi13, isi14, isi15, isi16, isi17, isi18, isi19, isi20, isi21, isi22, isi23, isi24, isi25, isi26, isi27, isi28, isi29, isi30, isi31, isi32, isi33, isi34, isi35, isi36, isi37, isi38, isi39, isi40, isi41, onlyF, dIx_tup, dIx_lst, dIx_ref, ixAt_0, ixAt_1, ixAt_2, ixAt_3, iEq_int, iNe_int, dAdd, iAdd, iSub, iNeg, iCmp, iLe, iLt, iGe, iGt, dMul, iMulT, iMul, iMod, iDiv, gIx, setIx, decide_true, decide_false, decide_eq_true_eq, Bool.not_eq_true, List.length_map, gets_ok, gets_bind, gets_ite, rsw_ite, rsw_seq, rsw_thn, rsw_nx, rsw_ret, rst_x, rsx_seq, rsx_nx, rsx_ret, rsx_brk, rsx_cont, rsx_ite, rsx_thn, gets_fnM, onlyP, Option.map_some, Src.items, h1]
    by_cases h : p.2 ∈ l
    · simp only [h, mVar, mK, mBin, mUn, mTru, mTest, mAnd, mOr, mNot, mAndV, mOrV, mNotV, mIf, mNil, mCons, mTup, mLst, mLstF, mCall, mChain, mIsi, fIsi, tyD, tyP, mSlice, oNo, oSome, mSeq, srcOf, mRange1, mRange2, sNext, sSeq, sIf, sRet, sRetN, sExpr, sSet, sAsg, sAug, sFor, sRaise, gSet, gMore, gNone, Mp.gTup, mMeth, fAppend, mEnum, srcEnum, mDNew, fLen, fInt, truth, ptruth, asB, pp1, pp2, ret1, dIs, isN, allP, frzD, mFrz, List.map_cons, List.map_nil, List.cons_append, List.nil_append, List.length_cons, List.length_nil, List.getElem?_cons_zero, List.getElem?_cons_succ, List.getElem?_nil, List.set_cons_zero, List.set_cons_succ, if_true, ite_true, Nat.reduceAdd, Nat.reduceSub, List.replicate, Bool.false_eq_true, if_false, Bool.not_true, Bool.not_false, mp_ft, mp_tf, isTy, beq_self_eq_true, isi0, isi1, isi2, isi3, isi4, isi5, isi6, isi7, isi8, isi9, isi10, isi11, isi12, isi13, isi14, isi15, isi16, isi17, isi18, isi19, isi20, isi21, isi22, isi23, isi24, isi25, isi26, isi27, isi28, isi29, isi30, isi31, isi32, isi33, isi34, isi35, isi36, isi37, isi38, isi39, isi40, isi41, onlyF, dIx_tup, dIx_lst, dIx_ref, ixAt_0, ixAt_1, ixAt_2, ixAt_3, iEq_int, iNe_int, dAdd, iAdd, iSub, iNeg, iCmp, iLe, iLt, iGe, iGt, dMul, iMulT, iMul, iMod, iDiv, gIx, setIx, decide_true, decide_false, decide_eq_true_eq, Bool.not_eq_true, List.length_map, gets_ok, gets_bind, gets_ite, rsw_ite, rsw_seq, rsw_thn, rsw_nx, rsw_ret, rst_x, rsx_seq, rsx_nx, rsx_ret, rsx_brk, rsx_cont, rsx_ite, rsx_thn, gets_fnM, onlyP, Option.map_some, Src.items, index_list h, z2, Option.map_some, eS]
      exact ⟨trivial, trivial⟩
    · simp only [h, mVar, mK, mBin, mUn, mTru, mTest, mAnd, mOr, mNot, mAndV, mOrV, mNotV, mIf, mNil, mCons, mTup, mLst, mLstF, mCall, mChain, mIsi, fIsi, tyD, tyP, mSlice, oNo, oSome, mSeq, srcOf, mRange1, mRange2, sNext, sSeq, sIf, sRet, sRetN, sExpr, sSet, sAsg, sAug, sFor, sRaise, gSet, gMore, gNone, Mp.gTup, mMeth, fAppend, mEnum, srcEnum, mDNew, fLen, fInt, truth, ptruth, asB, pp1, pp2, ret1, dIs, isN, allP, frzD, mFrz, List.map_cons, List.map_nil, List.cons_append, List.nil_append, List.length_cons, List.length_nil, List.getElem?_cons_zero, List.getElem?_cons_succ, List.getElem?_nil, List.set_cons_zero, List.set_cons_succ, if_true, ite_true, Nat.reduceAdd, Nat.reduceSub, List.replicate, Bool.false_eq_true, if_false, Bool.not_true, Bool.not_false, mp_ft, mp_tf, isTy, beq_self_eq_true, isi0, isi1, isi2, isi3, isi4, isi5, isi6, isi7, isi8, isi9, isi10, isi11, isi12, isi13, isi14, isi15, isi16, isi17, isi18, isi19, isi20, isi21, isi22, isi23, isi24, isi25, isi26, isi27, isi28, isi29, isi30, isi31, isi32, isi33, isi34, isi35, isi36, isi37, isi38, isi39, isi40, isi41, onlyF, dIx_tup, dIx_lst, dIx_ref, ixAt_0, ixAt_1, ixAt_2, ixAt_3, iEq_int, iNe_int, dAdd, iAdd, iSub, iNeg, iCmp, iLe, iLt, iGe, iGt, dMul, iMulT, iMul, iMod, iDiv, gIx, setIx, decide_true, decide_false, decide_eq_true_eq, Bool.not_eq_true, List.length_map, gets_ok, gets_bind, gets_ite, rsw_ite, rsw_seq, rsw_thn, rsw_nx, rsw_ret, rst_x, rsx_seq, rsx_nx, rsx_ret, rsx_brk, rsx_cont, rsx_ite, rsx_thn, gets_fnM, onlyP, Option.map_some, Src.items, eS]
      exact ⟨trivial, trivial⟩

/-! _law_trimmed -/
theorem sc__law_trimmed : FnScope ["_law_machine_here", "_law_size", "_law_rows", "_law_stay", "_law_state", "_law_later", "_law_step_here"] ["_law_machine_here"] (defScope t__law_trimmed) := ⟨rfl, rfl, rfl, by decide +kernel, rfl, by decide +kernel, by decide +kernel⟩
theorem bn__law_trimmed : BindN "_law_trimmed" t__law_trimmed ["_law_machine_here"] := fun _ _ _ _ _ _ us hl => match us, hl with | [_], _ => rfl
noncomputable def b__law_trimmed : MS := (sSeq (sAsg (mVar 0) (gTup 2 (gMore (gSet 1) (gMore (gSet 2) gNone)))) (sSeq (sSet 3 (mLc (mSeq (mCall fSortedF (mCons (mCall M__law_reached (mCons (mVar 2) (mCons (mK (.int 0)) mNil))) mNil))) [4] (gSet 4) (mTru (mCall M__law_ends (mCons (mVar 2) (mCons (mVar 4) mNil)))) (mVar 4) kFrz)) (sSeq (sIf (mTest (mBin dNotIn (mK (.int 0)) (mVar 3))) (sRet (mTup (mCons (mVar 1) (mCons (mTup (mCons (mTup (mCons (mK .none) (mCons (mBin dMul (mTup (mCons (mK .none) mNil)) (mVar 1)) mNil))) mNil)) mNil)))) sNext) (sSeq (sSet 5 (mLst mNil)) (sSeq (sFor (mSeq (mVar 3)) (gSet 4) (sExpr (mMeth "list" fAppend (mVar 5) (mCons (mTup (mCons (mBin dIx (mBin dIx (mVar 2) (mVar 4)) (mK (.int 0))) (mCons (mCall fTuple (mCons (mLc (mSeq (mBin dIx (mBin dIx (mVar 2) (mVar 4)) (mK (.int 1)))) [6] (gSet 6) mYes (mCall M__law_kept_step (mCons (mVar 6) (mCons (mVar 3) mNil))) kFrz) mNil)) mNil))) mNil)))) (sRet (mTup (mCons (mVar 1) (mCons (mCall fTuple (mCons (mVar 5) mNil)) mNil)))))))))
theorem raw__law_trimmed (N : Nm K mg) : DefOk P w K mg base "_law_trimmed" 4 1 (fnM 1 7 b__law_trimmed) := def_mk N.d__law_trimmed sc__law_trimmed bn__law_trimmed rfl rfl fun f cdv A outer s H E hr nd tk hp => (ss_cons (s_asg (e_var (i := 0)) (g_tup rfl (gs_cons (g_name (i := 1) nd) (gs_cons (g_name (i := 2) nd) gs_nil QuietG.none) (QuietG.more Quiet1.set QuietG.none)))) (ss_cons (s_set (i := 3) nd (e_lcF (own := [("_law_state", 4)]) rfl nd (i_seq (e_sortedF rfl rfl N.f_sorted (a_cons (e_callS (ok__law_reached N) hr (by decide) tk (a_cons (e_var (i := 2)) (a_cons e_int a_nil)) (argN_cons (argN_cons argN_nil))) a_nil))) (blkOk_by (N := ["_law_machine_here", "_law_size", "_law_rows", "_law_stay", "_law_state", "_law_later", "_law_step_here"]) (sc := defScope t__law_trimmed) (own := [("_law_state", 4)]) (by decide +kernel)) (tg_name (i := 4) (by decide)) (fun _ _ _ _ _ => pg_name (i := 4) nd rfl (by first | exact Or.inl rfl | exact Or.inr rfl)) (fun _ _ _ _ _ => (c_if (t_tru (e_callS (ok__law_ends N) hr (by decide) takes0 (a_cons (e_var (i := 2)) (a_cons (e_var (i := 4)) a_nil)) (argN_cons (argN_cons argN_nil)))))) (fun _ _ _ _ _ => (e_var (i := 4))))) (ss_cons (s_if (t_cmp (o_notin (hu65 hr)) e_int (e_var (i := 3)) rfl) (ss_one (s_ret (e_tup (a_cons (e_var (i := 1)) (a_cons (e_tup (a_cons (e_tup (a_cons e_none (a_cons (e_bin o_mulT (e_tup (a_cons e_none a_nil)) (e_var (i := 1))) a_nil))) a_nil)) a_nil))))) ss_nil) (ss_cons (s_set (i := 5) nd (e_lst a_nil)) (ss_cons (s_for hp rfl (i_seq (e_var (i := 3))) (g_name (i := 4) nd) (ss_one (s_expr (e_append (e_var (i := 5)) (a_cons (e_tup (a_cons (e_ix (e_ix (e_var (i := 2)) (e_var (i := 4))) e_int) (a_cons (e_ty b_tuple rfl N.f_tuple bt_tuple (a_cons (e_lcF (own := [("_law_step_here", 6)]) rfl nd (i_seq (e_ix (e_ix (e_var (i := 2)) (e_var (i := 4))) e_int)) (blkOk_by (N := ["_law_machine_here", "_law_size", "_law_rows", "_law_stay", "_law_state", "_law_later", "_law_step_here"]) (sc := defScope t__law_trimmed) (own := [("_law_step_here", 6)]) (by decide +kernel)) (tg_name (i := 6) (by decide)) (fun _ _ _ _ _ => pg_name (i := 6) nd rfl (by first | exact Or.inl rfl | exact Or.inr rfl)) (fun _ _ _ _ _ => c_no) (fun _ _ _ _ _ => (e_callS (ok__law_kept_step N) hr (by decide) takes0 (a_cons (e_var (i := 6)) (a_cons (e_var (i := 3)) a_nil)) (argN_cons (argN_cons argN_nil))))) a_nil)) a_nil))) a_nil))))) (ss_one (s_ret (e_tup (a_cons (e_var (i := 1)) (a_cons (e_ty b_tuple rfl N.f_tuple bt_tuple (a_cons (e_var (i := 5)) a_nil)) a_nil))))))))))
theorem Mx__law_trimmed : ∃ f : List D → S → R D, f = pureRun (fnM 1 7 b__law_trimmed) := ⟨_, rfl⟩
noncomputable def M__law_trimmed : List D → S → R D := Classical.choose Mx__law_trimmed
theorem Me__law_trimmed : M__law_trimmed = pureRun (fnM 1 7 b__law_trimmed) := Classical.choose_spec Mx__law_trimmed
theorem ok__law_trimmed (N : Nm K mg) : DefOk P w K mg base "_law_trimmed" 4 1 M__law_trimmed := by rw [Me__law_trimmed]; exact (raw__law_trimmed N).alone
open Classical in
theorem ltrimmed_eq {m : Mac} (hm : m.Ok) {s : S} : M__law_trimmed [.p (eM m)] s = .ok (.p (eM m.trim)) s := by
  rw [Me__law_trimmed]; refine pure_eq rfl ?_
  have h30 := hm.r30
  have h0 : 0 < m.rs.length := by have := hm.r1; omega
  have z0 : Mp.sizeOk 0 = true := by decide
  have z1 : Mp.sizeOk 1 = true := by decide
  have z2 : Mp.sizeOk 2 = true := by decide
  obtain ⟨_, ⟨fs, rfl, nd, mem⟩, er⟩ := lreached_eq hm h0 (s := ⟨[], s.w⟩)
  have hperm : fs.Perm ((List.range m.rs.length).filter fun q => decide (q ∈ fs)) := perm_of nd (List.Pairwise.filter _ List.nodup_range) fun x => by
    rw [List.mem_filter, List.mem_range, decide_eq_true_eq]
    exact ⟨fun h => ⟨((mem x).mp h).lt hm h0, h⟩, fun h => h.2⟩
  have es := sorted_list hperm (List.Pairwise.filter _ List.pairwise_lt_range) (s := ⟨[], s.w⟩)
  have hsz : Mp.sizeOk ((List.range m.rs.length).filter fun q => decide (q ∈ fs)).length = true := sizeOk_of (by
    have := List.length_filter_le (fun q => decide (q ∈ fs)) (List.range m.rs.length)
    rw [List.length_range] at this
    omega)
  have hlive : ((List.range m.rs.length).filter fun q => decide (q ∈ fs)).filter (fun q => decide (m.Coe q)) = m.live := by
    unfold Mac.live
    rw [List.filter_filter]
    refine List.filter_congr fun q hq => ?_
    rw [Bool.eq_iff_iff]
    simp only [Bool.and_eq_true, decide_eq_true_eq, mem]
    exact ⟨fun h => ⟨h.2, h.1⟩, fun h => ⟨h.2, h.1⟩⟩
  have hll : m.live.length ≤ 30 := by
    have := nd_len (n := m.rs.length) (Mac.live_nd (m := m)) fun x hx => Mac.live_lt hx
    omega
  have er' : M__law_reached [.p (.tuple (m.rs.map eR)), .p (.int 0)] ⟨[], s.w⟩ = .ok (.p (.list (fs.map eN))) ⟨[], s.w⟩ := er
  have n0 : ∀ (s : S), dNotIn (.p (.int 0)) (.p (.list (m.live.map eN))) s = .ok (.p (.bool (!decide (0 ∈ m.live)))) s := fun s => notin_list (q := 0)
  simp only [b__law_trimmed, mVar, mK, mBin, mUn, mTru, mTest, mAnd, mOr, mNot, mAndV, mOrV, mNotV, mIf, mNil, mCons, mTup, mLst, mLstF, mCall, mChain, mIsi, fIsi, tyD, tyP, mSlice, oNo, oSome, mSeq, srcOf, mRange1, mRange2, sNext, sSeq, sIf, sRet, sRetN, sExpr, sSet, sAsg, sAug, sFor, sRaise, gSet, gMore, gNone, Mp.gTup, mMeth, fAppend, mEnum, srcEnum, mDNew, fLen, fInt, truth, ptruth, asB, pp1, pp2, ret1, dIs, isN, allP, frzD, mFrz, List.map_cons, List.map_nil, List.cons_append, List.nil_append, List.length_cons, List.length_nil, List.getElem?_cons_zero, List.getElem?_cons_succ, List.getElem?_nil, List.set_cons_zero, List.set_cons_succ, if_true, ite_true, Nat.reduceAdd, Nat.reduceSub, List.replicate, Bool.false_eq_true, if_false, Bool.not_true, Bool.not_false, mp_ft, mp_tf, isTy, beq_self_eq_true, isi0, isi1, isi2, isi3, isi4, isi5, isi6, isi7, isi8, isi9, isi10, isi11, isi12, isi13, isi14, isi15, isi16, isi17, isi18, isi19, isi20, isi21, isi22, isi23, isi24, isi25, isi26, isi27, isi28, isi29, isi30, isi31, isi32, isi33, isi34, isi35, isi36, isi37, isi38, isi39, isi40, isi41, onlyF, dIx_tup, dIx_lst, dIx_ref, ixAt_0, ixAt_1, ixAt_2, ixAt_3, iEq_int, iNe_int, dAdd, iAdd, iSub, iNeg, iCmp, iLe, iLt, iGe, iGt, dMul, iMulT, iMul, iMod, iDiv, gIx, setIx, decide_true, decide_false, decide_eq_true_eq, Bool.not_eq_true, List.length_map, gets_ok, gets_bind, gets_ite, rsw_ite, rsw_seq, rsw_thn, rsw_nx, rsw_ret, rst_x, rsx_seq, rsx_nx, rsx_ret, rsx_brk, rsx_cont, rsx_ite, rsx_thn, gets_fnM, onlyP, Option.map_some, Src.items, eM, mLc, List.length_cons, List.length_nil]
  simp only [mVar, mK, mBin, mUn, mTru, mTest, mAnd, mOr, mNot, mAndV, mOrV, mNotV, mIf, mNil, mCons, mTup, mLst, mLstF, mCall, mChain, mIsi, fIsi, tyD, tyP, mSlice, oNo, oSome, mSeq, srcOf, mRange1, mRange2, sNext, sSeq, sIf, sRet, sRetN, sExpr, sSet, sAsg, sAug, sFor, sRaise, gSet, gMore, gNone, Mp.gTup, mMeth, fAppend, mEnum, srcEnum, mDNew, fLen, fInt, truth, ptruth, asB, pp1, pp2, ret1, dIs, isN, allP, frzD, mFrz, List.map_cons, List.map_nil, List.cons_append, List.nil_append, List.length_cons, List.length_nil, List.getElem?_cons_zero, List.getElem?_cons_succ, List.getElem?_nil, List.set_cons_zero, List.set_cons_succ, if_true, ite_true, Nat.reduceAdd, Nat.reduceSub, List.replicate, Bool.false_eq_true, if_false, Bool.not_true, Bool.not_false, mp_ft, mp_tf, isTy, beq_self_eq_true, isi0, isi1, isi2, isi3, isi4, isi5, isi6, isi7, isi8, isi9, isi10, isi11, isi12, isi13, isi14, isi15, isi16, isi17, isi18, isi19, isi20, isi21, isi22, isi23, isi24, isi25, isi26, isi27, isi28, isi29, isi30, isi31, isi32, isi33, isi34, isi35, isi36, isi37, isi38, isi39, isi40, isi41, onlyF, dIx_tup, dIx_lst, dIx_ref, ixAt_0, ixAt_1, ixAt_2, ixAt_3, iEq_int, iNe_int, dAdd, iAdd, iSub, iNeg, iCmp, iLe, iLt, iGe, iGt, dMul, iMulT, iMul, iMod, iDiv, gIx, setIx, decide_true, decide_false, decide_eq_true_eq, Bool.not_eq_true, List.length_map, gets_ok, gets_bind, gets_ite, rsw_ite, rsw_seq, rsw_thn, rsw_nx, rsw_ret, rst_x, rsx_seq, rsx_nx, rsx_ret, rsx_brk, rsx_cont, rsx_ite, rsx_thn, gets_fnM, onlyP, Option.map_some, Src.items, er', es, wipeE, map_map, hsz]
  rw [lc_filter (a := fun q : Nat => D.p (eN q)) (f := fun q : Nat => D.p (eN q)) (p := fun q => decide (m.Coe q)) trivial (fun q hq => by
    have hqn := List.mem_range.mp (List.mem_filter.mp hq).1
    simp only [pureRun, onlyP, fnM, mVar, mK, mBin, mUn, mTru, mTest, mAnd, mOr, mNot, mAndV, mOrV, mNotV, mIf, mNil, mCons, mTup, mLst, mLstF, mCall, mChain, mIsi, fIsi, tyD, tyP, mSlice, oNo, oSome, mSeq, srcOf, mRange1, mRange2, sNext, sSeq, sIf, sRet, sRetN, sExpr, sSet, sAsg, sAug, sFor, sRaise, gSet, gMore, gNone, Mp.gTup, mMeth, fAppend, mEnum, srcEnum, mDNew, fLen, fInt, truth, ptruth, asB, pp1, pp2, ret1, dIs, isN, allP, frzD, mFrz, Mp.R.bind, R.thn, RS.seq, List.map_cons, List.map_nil, List.cons_append, List.nil_append, List.length_cons, List.length_nil, List.getElem?_cons_zero, List.getElem?_cons_succ, List.getElem?_nil, List.set_cons_zero, List.set_cons_succ, if_true, ite_true, Nat.reduceAdd, Nat.reduceSub, List.replicate, Bool.false_eq_true, if_false, Bool.not_true, Bool.not_false, mp_ft, mp_tf, isTy, beq_self_eq_true, isi0, isi1, isi2, isi3, isi4, isi5, isi6, isi7, isi8, isi9, isi10, isi11, isi12, isi13, isi14, isi15, isi16, isi17, isi18, isi19, isi20, isi21, isi22, isi23, isi24, isi25, isi26, isi27, isi28, isi29, isi30, isi31, isi32, isi33, isi34, isi35, isi36, isi37, isi38, isi39, isi40, isi41, onlyF, dIx_tup, dIx_lst, dIx_ref, ixAt_0, ixAt_1, ixAt_2, ixAt_3, iEq_int, iNe_int, dAdd, iAdd, iSub, iNeg, iCmp, iLe, iLt, iGe, iGt, dMul, iMulT, iMul, iMod, iDiv, gIx, setIx, decide_true, decide_false, decide_eq_true_eq, Bool.not_eq_true, List.length_map, eN, ends_eq hm hqn]) (fun q _ _ => by simp only [pureRun, onlyP, fnM, mVar, mK, mBin, mUn, mTru, mTest, mAnd, mOr, mNot, mAndV, mOrV, mNotV, mIf, mNil, mCons, mTup, mLst, mLstF, mCall, mChain, mIsi, fIsi, tyD, tyP, mSlice, oNo, oSome, mSeq, srcOf, mRange1, mRange2, sNext, sSeq, sIf, sRet, sRetN, sExpr, sSet, sAsg, sAug, sFor, sRaise, gSet, gMore, gNone, Mp.gTup, mMeth, fAppend, mEnum, srcEnum, mDNew, fLen, fInt, truth, ptruth, asB, pp1, pp2, ret1, dIs, isN, allP, frzD, mFrz, Mp.R.bind, R.thn, RS.seq, List.map_cons, List.map_nil, List.cons_append, List.nil_append, List.length_cons, List.length_nil, List.getElem?_cons_zero, List.getElem?_cons_succ, List.getElem?_nil, List.set_cons_zero, List.set_cons_succ, if_true, ite_true, Nat.reduceAdd, Nat.reduceSub, List.replicate, Bool.false_eq_true, if_false, Bool.not_true, Bool.not_false, mp_ft, mp_tf, isTy, beq_self_eq_true, isi0, isi1, isi2, isi3, isi4, isi5, isi6, isi7, isi8, isi9, isi10, isi11, isi12, isi13, isi14, isi15, isi16, isi17, isi18, isi19, isi20, isi21, isi22, isi23, isi24, isi25, isi26, isi27, isi28, isi29, isi30, isi31, isi32, isi33, isi34, isi35, isi36, isi37, isi38, isi39, isi40, isi41, onlyF, dIx_tup, dIx_lst, dIx_ref, ixAt_0, ixAt_1, ixAt_2, ixAt_3, iEq_int, iNe_int, dAdd, iAdd, iSub, iNeg, iCmp, iLe, iLt, iGe, iGt, dMul, iMulT, iMul, iMod, iDiv, gIx, setIx, decide_true, decide_false, decide_eq_true_eq, Bool.not_eq_true, List.length_map])]
  rw [hlive]
  simp only [mVar, mK, mBin, mUn, mTru, mTest, mAnd, mOr, mNot, mAndV, mOrV, mNotV, mIf, mNil, mCons, mTup, mLst, mLstF, mCall, mChain, mIsi, fIsi, tyD, tyP, mSlice, oNo, oSome, mSeq, srcOf, mRange1, mRange2, sNext, sSeq, sIf, sRet, sRetN, sExpr, sSet, sAsg, sAug, sFor, sRaise, gSet, gMore, gNone, Mp.gTup, mMeth, fAppend, mEnum, srcEnum, mDNew, fLen, fInt, truth, ptruth, asB, pp1, pp2, ret1, dIs, isN, allP, frzD, mFrz, List.map_cons, List.map_nil, List.cons_append, List.nil_append, List.length_cons, List.length_nil, List.getElem?_cons_zero, List.getElem?_cons_succ, List.getElem?_nil, List.set_cons_zero, List.set_cons_succ, if_true, ite_true, Nat.reduceAdd, Nat.reduceSub, List.replicate, Bool.false_eq_true, if_false, Bool.not_true, Bool.not_false, mp_ft, mp_tf, isTy, beq_self_eq_true, isi0, isi1, isi2, isi3, isi4, isi5, isi6, isi7, isi8, isi9, isi10, isi11, isi12, isi13, isi14, isi15, isi16, isi17, isi18, isi19, isi20, isi21, isi22, isi23, isi24, isi25, isi26, isi27, isi28, isi29, isi30, isi31, isi32, isi33, isi34, isi35, isi36, isi37, isi38, isi39, isi40, isi41, onlyF, dIx_tup, dIx_lst, dIx_ref, ixAt_0, ixAt_1, ixAt_2, ixAt_3, iEq_int, iNe_int, dAdd, iAdd, iSub, iNeg, iCmp, iLe, iLt, iGe, iGt, dMul, iMulT, iMul, iMod, iDiv, gIx, setIx, decide_true, decide_false, decide_eq_true_eq, Bool.not_eq_true, List.length_map, gets_ok, gets_bind, gets_ite, rsw_ite, rsw_seq, rsw_thn, rsw_nx, rsw_ret, rst_x, rsx_seq, rsx_nx, rsx_ret, rsx_brk, rsx_cont, rsx_ite, rsx_thn, gets_fnM, onlyP, Option.map_some, Src.items, kFrz, allP_map, n0]
  by_cases hz' : 0 ∈ m.live
  · simp only [hz', mVar, mK, mBin, mUn, mTru, mTest, mAnd, mOr, mNot, mAndV, mOrV, mNotV, mIf, mNil, mCons, mTup, mLst, mLstF, mCall, mChain, mIsi, fIsi, tyD, tyP, mSlice, oNo, oSome, mSeq, srcOf, mRange1, mRange2, sNext, sSeq, sIf, sRet, sRetN, sExpr, sSet, sAsg, sAug, sFor, sRaise, gSet, gMore, gNone, Mp.gTup, mMeth, fAppend, mEnum, srcEnum, mDNew, fLen, fInt, truth, ptruth, asB, pp1, pp2, ret1, dIs, isN, allP, frzD, mFrz, List.map_cons, List.map_nil, List.cons_append, List.nil_append, List.length_cons, List.length_nil, List.getElem?_cons_zero, List.getElem?_cons_succ, List.getElem?_nil, List.set_cons_zero, List.set_cons_succ, if_true, ite_true, Nat.reduceAdd, Nat.reduceSub, List.replicate, Bool.false_eq_true, if_false, Bool.not_true, Bool.not_false, mp_ft, mp_tf, isTy, beq_self_eq_true, isi0, isi1, isi2, isi3, isi4, isi5, isi6, isi7, isi8, isi9, isi10, isi11, isi12, isi13, isi14, isi15, isi16, isi17, isi18, isi19, isi20, isi21, isi22, isi23, isi24, isi25, isi26, isi27, isi28, isi29, isi30, isi31, isi32, isi33, isi34, isi35, isi36, isi37, isi38, isi39, isi40, isi41, onlyF, dIx_tup, dIx_lst, dIx_ref, ixAt_0, ixAt_1, ixAt_2, ixAt_3, iEq_int, iNe_int, dAdd, iAdd, iSub, iNeg, iCmp, iLe, iLt, iGe, iGt, dMul, iMulT, iMul, iMod, iDiv, gIx, setIx, decide_true, decide_false, decide_eq_true_eq, Bool.not_eq_true, List.length_map, gets_ok, gets_bind, gets_ite, rsw_ite, rsw_seq, rsw_thn, rsw_nx, rsw_ret, rst_x, rsx_seq, rsx_nx, rsx_ret, rsx_brk, rsx_cont, rsx_ite, rsx_thn, gets_fnM, onlyP, Option.map_some, Src.items, newLst, z0, map_map]
    refine for_gets (J := fun xs e s' => ∃ (r1 r2 : List Nat) (e5 : Option D), xs = r1.map (fun q : Nat => D.p (eN q)) ∧ r2 ++ r1 = m.live ∧ s' = ⟨[some (.lst (r2.map fun q => D.p (eR ((m.row q).keep m.live))))], s.w⟩ ∧
      e = [some (.p (.tuple [.int m.n, .tuple (m.rs.map eR)])), some (.p (.int m.n)), some (.p (.tuple (m.rs.map eR))), some (.p (.list (m.live.map eN))), e5, some (.ref 0), none]) (fun _ _ _ _ => trivial) ?_ ?_ _ _ _ ?_
    · rintro x xs e s' ⟨r1, r2, e5, hx, hr, rfl, rfl⟩
      cases r1 with
      | nil => cases hx
      | cons q r1 =>
        cases hx
        have hmem : q ∈ m.live := by rw [← hr]; simp
        have hq := Mac.live_lt hmem
        have hrow := hm.row hq
        have h8 := hm.n8
        have zr : Mp.sizeOk (m.row q).ss.length = true := sizeOk_of (by rw [hrow.len]; omega)
        have zr2 : Mp.sizeOk (r2.length + 1) = true := sizeOk_of (by
          have := congrArg List.length hr
          simp at this
          omega)
        simp only [mVar, mK, mBin, mUn, mTru, mTest, mAnd, mOr, mNot, mAndV, mOrV, mNotV, mIf, mNil, mCons, mTup, mLst, mLstF, mCall, mChain, mIsi, fIsi, tyD, tyP, mSlice, oNo, oSome, mSeq, srcOf, mRange1, mRange2, sNext, sSeq, sIf, sRet, sRetN, sExpr, sSet, sAsg, sAug, sFor, sRaise, gSet, gMore, gNone, Mp.gTup, mMeth, fAppend, mEnum, srcEnum, mDNew, fLen, fInt, truth, ptruth, asB, pp1, pp2, ret1, dIs, isN, allP, frzD, mFrz, List.map_cons, List.map_nil, List.cons_append, List.nil_append, List.length_cons, List.length_nil, List.getElem?_cons_zero, List.getElem?_cons_succ, List.getElem?_nil, List.set_cons_zero, List.set_cons_succ, if_true, ite_true, Nat.reduceAdd, Nat.reduceSub, List.replicate, Bool.false_eq_true, if_false, Bool.not_true, Bool.not_false, mp_ft, mp_tf, isTy, beq_self_eq_true, isi0, isi1, isi2, isi3, isi4, isi5, isi6, isi7, isi8, isi9, isi10, isi11, isi12, isi13, isi14, isi15, isi16, isi17, isi18, isi19, isi20, isi21, isi22, isi23, isi24, isi25, isi26, isi27, isi28, isi29, isi30, isi31, isi32, isi33, isi34, isi35, isi36, isi37, isi38, isi39, isi40, isi41, onlyF, dIx_tup, dIx_lst, dIx_ref, ixAt_0, ixAt_1, ixAt_2, ixAt_3, iEq_int, iNe_int, dAdd, iAdd, iSub, iNeg, iCmp, iLe, iLt, iGe, iGt, dMul, iMulT, iMul, iMod, iDiv, gIx, setIx, decide_true, decide_false, decide_eq_true_eq, Bool.not_eq_true, List.length_map, gets_ok, gets_bind, gets_ite, rsw_ite, rsw_seq, rsw_thn, rsw_nx, rsw_ret, rst_x, rsx_seq, rsx_nx, rsx_ret, rsx_brk, rsx_cont, rsx_ite, rsx_thn, gets_fnM, onlyP, Option.map_some, Src.items, eN, ix_rs hq, ix_R0, ix_R1, mLc, wipeE, zr, map_map]
        rw [lc_map (f := fun st => D.p (eS (MSt.keep m.live st))) trivial (fun st _ => by
          have := kept_step_eq (l := m.live) (st := st) (s := ⟨[some (.lst (r2.map fun q => D.p (eR ((m.row q).keep m.live))))], s.w⟩)
          simp only [pureRun, onlyP, fnM, mVar, mK, mBin, mUn, mTru, mTest, mAnd, mOr, mNot, mAndV, mOrV, mNotV, mIf, mNil, mCons, mTup, mLst, mLstF, mCall, mChain, mIsi, fIsi, tyD, tyP, mSlice, oNo, oSome, mSeq, srcOf, mRange1, mRange2, sNext, sSeq, sIf, sRet, sRetN, sExpr, sSet, sAsg, sAug, sFor, sRaise, gSet, gMore, gNone, Mp.gTup, mMeth, fAppend, mEnum, srcEnum, mDNew, fLen, fInt, truth, ptruth, asB, pp1, pp2, ret1, dIs, isN, allP, frzD, mFrz, Mp.R.bind, R.thn, RS.seq, List.map_cons, List.map_nil, List.cons_append, List.nil_append, List.length_cons, List.length_nil, List.getElem?_cons_zero, List.getElem?_cons_succ, List.getElem?_nil, List.set_cons_zero, List.set_cons_succ, if_true, ite_true, Nat.reduceAdd, Nat.reduceSub, List.replicate, Bool.false_eq_true, if_false, Bool.not_true, Bool.not_false, mp_ft, mp_tf, isTy, beq_self_eq_true, isi0, isi1, isi2, isi3, isi4, isi5, isi6, isi7, isi8, isi9, isi10, isi11, isi12, isi13, isi14, isi15, isi16, isi17, isi18, isi19, isi20, isi21, isi22, isi23, isi24, isi25, isi26, isi27, isi28, isi29, isi30, isi31, isi32, isi33, isi34, isi35, isi36, isi37, isi38, isi39, isi40, isi41, onlyF, dIx_tup, dIx_lst, dIx_ref, ixAt_0, ixAt_1, ixAt_2, ixAt_3, iEq_int, iNe_int, dAdd, iAdd, iSub, iNeg, iCmp, iLe, iLt, iGe, iGt, dMul, iMulT, iMul, iMod, iDiv, gIx, setIx, decide_true, decide_false, decide_eq_true_eq, Bool.not_eq_true, List.length_map]
          exact this)]
        simp only [mVar, mK, mBin, mUn, mTru, mTest, mAnd, mOr, mNot, mAndV, mOrV, mNotV, mIf, mNil, mCons, mTup, mLst, mLstF, mCall, mChain, mIsi, fIsi, tyD, tyP, mSlice, oNo, oSome, mSeq, srcOf, mRange1, mRange2, sNext, sSeq, sIf, sRet, sRetN, sExpr, sSet, sAsg, sAug, sFor, sRaise, gSet, gMore, gNone, Mp.gTup, mMeth, fAppend, mEnum, srcEnum, mDNew, fLen, fInt, truth, ptruth, asB, pp1, pp2, ret1, dIs, isN, allP, frzD, mFrz, List.map_cons, List.map_nil, List.cons_append, List.nil_append, List.length_cons, List.length_nil, List.getElem?_cons_zero, List.getElem?_cons_succ, List.getElem?_nil, List.set_cons_zero, List.set_cons_succ, if_true, ite_true, Nat.reduceAdd, Nat.reduceSub, List.replicate, Bool.false_eq_true, if_false, Bool.not_true, Bool.not_false, mp_ft, mp_tf, isTy, beq_self_eq_true, isi0, isi1, isi2, isi3, isi4, isi5, isi6, isi7, isi8, isi9, isi10, isi11, isi12, isi13, isi14, isi15, isi16, isi17, isi18, isi19, isi20, isi21, isi22, isi23, isi24, isi25, isi26, isi27, isi28, isi29, isi30, isi31, isi32, isi33, isi34, isi35, isi36, isi37, isi38, isi39, isi40, isi41, onlyF, dIx_tup, dIx_lst, dIx_ref, ixAt_0, ixAt_1, ixAt_2, ixAt_3, iEq_int, iNe_int, dAdd, iAdd, iSub, iNeg, iCmp, iLe, iLt, iGe, iGt, dMul, iMulT, iMul, iMod, iDiv, gIx, setIx, decide_true, decide_false, decide_eq_true_eq, Bool.not_eq_true, List.length_map, gets_ok, gets_bind, gets_ite, rsw_ite, rsw_seq, rsw_thn, rsw_nx, rsw_ret, rst_x, rsx_seq, rsx_nx, rsx_ret, rsx_brk, rsx_cont, rsx_ite, rsx_thn, gets_fnM, onlyP, Option.map_some, Src.items, kFrz, allP_map, fTuple, lstP, z2, zr2]
        exact ⟨r1, r2 ++ [q], _, rfl, by simpa using hr, by simp [eR, MRow.keep, Function.comp_def], rfl⟩
    · rintro e s' ⟨r1, r2, e5, hx, hr, rfl, rfl⟩
      cases r1 with
      | cons c t1 => cases hx
      | nil =>
        rw [List.append_nil] at hr
        rw [hr]
        simp only [mVar, mK, mBin, mUn, mTru, mTest, mAnd, mOr, mNot, mAndV, mOrV, mNotV, mIf, mNil, mCons, mTup, mLst, mLstF, mCall, mChain, mIsi, fIsi, tyD, tyP, mSlice, oNo, oSome, mSeq, srcOf, mRange1, mRange2, sNext, sSeq, sIf, sRet, sRetN, sExpr, sSet, sAsg, sAug, sFor, sRaise, gSet, gMore, gNone, Mp.gTup, mMeth, fAppend, mEnum, srcEnum, mDNew, fLen, fInt, truth, ptruth, asB, pp1, pp2, ret1, dIs, isN, allP, frzD, mFrz, List.map_cons, List.map_nil, List.cons_append, List.nil_append, List.length_cons, List.length_nil, List.getElem?_cons_zero, List.getElem?_cons_succ, List.getElem?_nil, List.set_cons_zero, List.set_cons_succ, if_true, ite_true, Nat.reduceAdd, Nat.reduceSub, List.replicate, Bool.false_eq_true, if_false, Bool.not_true, Bool.not_false, mp_ft, mp_tf, isTy, beq_self_eq_true, isi0, isi1, isi2, isi3, isi4, isi5, isi6, isi7, isi8, isi9, isi10, isi11, isi12, isi13, isi14, isi15, isi16, isi17, isi18, isi19, isi20, isi21, isi22, isi23, isi24, isi25, isi26, isi27, isi28, isi29, isi30, isi31, isi32, isi33, isi34, isi35, isi36, isi37, isi38, isi39, isi40, isi41, onlyF, dIx_tup, dIx_lst, dIx_ref, ixAt_0, ixAt_1, ixAt_2, ixAt_3, iEq_int, iNe_int, dAdd, iAdd, iSub, iNeg, iCmp, iLe, iLt, iGe, iGt, dMul, iMulT, iMul, iMod, iDiv, gIx, setIx, decide_true, decide_false, decide_eq_true_eq, Bool.not_eq_true, List.length_map, gets_ok, gets_bind, gets_ite, rsw_ite, rsw_seq, rsw_thn, rsw_nx, rsw_ret, rst_x, rsx_seq, rsx_nx, rsx_ret, rsx_brk, rsx_cont, rsx_ite, rsx_thn, gets_fnM, onlyP, Option.map_some, Src.items, fTuple, lstP, allP_map, z2]
        have ht : m.trim = ⟨m.n, m.live.map fun q => (m.row q).keep m.live⟩ := by
          unfold Mac.trim
          rw [if_pos hz']
        simp [ht, eM, Function.comp_def]
    · exact ⟨m.live, [], none, rfl, rfl, rfl, rfl⟩
  · have h1 := hm.n1
    have h8 := hm.n8
    simp only [hz', mVar, mK, mBin, mUn, mTru, mTest, mAnd, mOr, mNot, mAndV, mOrV, mNotV, mIf, mNil, mCons, mTup, mLst, mLstF, mCall, mChain, mIsi, fIsi, tyD, tyP, mSlice, oNo, oSome, mSeq, srcOf, mRange1, mRange2, sNext, sSeq, sIf, sRet, sRetN, sExpr, sSet, sAsg, sAug, sFor, sRaise, gSet, gMore, gNone, Mp.gTup, mMeth, fAppend, mEnum, srcEnum, mDNew, fLen, fInt, truth, ptruth, asB, pp1, pp2, ret1, dIs, isN, allP, frzD, mFrz, List.map_cons, List.map_nil, List.cons_append, List.nil_append, List.length_cons, List.length_nil, List.getElem?_cons_zero, List.getElem?_cons_succ, List.getElem?_nil, List.set_cons_zero, List.set_cons_succ, if_true, ite_true, Nat.reduceAdd, Nat.reduceSub, List.replicate, Bool.false_eq_true, if_false, Bool.not_true, Bool.not_false, mp_ft, mp_tf, isTy, beq_self_eq_true, isi0, isi1, isi2, isi3, isi4, isi5, isi6, isi7, isi8, isi9, isi10, isi11, isi12, isi13, isi14, isi15, isi16, isi17, isi18, isi19, isi20, isi21, isi22, isi23, isi24, isi25, isi26, isi27, isi28, isi29, isi30, isi31, isi32, isi33, isi34, isi35, isi36, isi37, isi38, isi39, isi40, isi41, onlyF, dIx_tup, dIx_lst, dIx_ref, ixAt_0, ixAt_1, ixAt_2, ixAt_3, iEq_int, iNe_int, dAdd, iAdd, iSub, iNeg, iCmp, iLe, iLt, iGe, iGt, dMul, iMulT, iMul, iMod, iDiv, gIx, setIx, decide_true, decide_false, decide_eq_true_eq, Bool.not_eq_true, List.length_map, gets_ok, gets_bind, gets_ite, rsw_ite, rsw_seq, rsw_thn, rsw_nx, rsw_ret, rst_x, rsx_seq, rsx_nx, rsx_ret, rsx_brk, rsx_cont, rsx_ite, rsx_thn, gets_fnM, onlyP, Option.map_some, Src.items, z1, z2, Int.toNat_natCast, rep_none, Nat.reduceLeDiff, and_true, List.length_cons, List.length_nil]
    simp only [mul_none h1 h8, mVar, mK, mBin, mUn, mTru, mTest, mAnd, mOr, mNot, mAndV, mOrV, mNotV, mIf, mNil, mCons, mTup, mLst, mLstF, mCall, mChain, mIsi, fIsi, tyD, tyP, mSlice, oNo, oSome, mSeq, srcOf, mRange1, mRange2, sNext, sSeq, sIf, sRet, sRetN, sExpr, sSet, sAsg, sAug, sFor, sRaise, gSet, gMore, gNone, Mp.gTup, mMeth, fAppend, mEnum, srcEnum, mDNew, fLen, fInt, truth, ptruth, asB, pp1, pp2, ret1, dIs, isN, allP, frzD, mFrz, List.map_cons, List.map_nil, List.cons_append, List.nil_append, List.length_cons, List.length_nil, List.getElem?_cons_zero, List.getElem?_cons_succ, List.getElem?_nil, List.set_cons_zero, List.set_cons_succ, if_true, ite_true, Nat.reduceAdd, Nat.reduceSub, List.replicate, Bool.false_eq_true, if_false, Bool.not_true, Bool.not_false, mp_ft, mp_tf, isTy, beq_self_eq_true, isi0, isi1, isi2, isi3, isi4, isi5, isi6, isi7, isi8, isi9, isi10, isi11, isi12, isi13, isi14, isi15, isi16, isi17, isi18, isi19, isi20, isi21, isi22, isi23, isi24, isi25, isi26, isi27, isi28, isi29, isi30, isi31, isi32, isi33, isi34, isi35, isi36, isi37, isi38, isi39, isi40, isi41, onlyF, dIx_tup, dIx_lst, dIx_ref, ixAt_0, ixAt_1, ixAt_2, ixAt_3, iEq_int, iNe_int, dAdd, iAdd, iSub, iNeg, iCmp, iLe, iLt, iGe, iGt, dMul, iMulT, iMul, iMod, iDiv, gIx, setIx, decide_true, decide_false, decide_eq_true_eq, Bool.not_eq_true, List.length_map, gets_ok, gets_bind, gets_ite, rsw_ite, rsw_seq, rsw_thn, rsw_nx, rsw_ret, rst_x, rsx_seq, rsx_nx, rsx_ret, rsx_brk, rsx_cont, rsx_ite, rsx_thn, gets_fnM, onlyP, Option.map_some, Src.items, z1, z2]
    have ht : m.trim = ⟨m.n, [⟨none, List.replicate m.n none⟩]⟩ := by
      unfold Mac.trim
      rw [if_neg hz']
    simp [ht, eM, eR, eO, eS]

/-! _law_way -/
theorem sc__law_way : FnScope ["_law_rows", "_law_begin", "_law_ends_here", "_law_ways", "_law_left", "_law_at", "_law_steps", "_law_letter", "_law_state"] ["_law_rows", "_law_begin", "_law_ends_here"] (defScope t__law_way) := ⟨rfl, rfl, rfl, by decide +kernel, rfl, by decide +kernel, by decide +kernel⟩
theorem bn__law_way : BindN "_law_way" t__law_way ["_law_rows", "_law_begin", "_law_ends_here"] := fun _ _ _ _ _ _ us hl => match us, hl with | [_, _, _], _ => rfl
noncomputable def b__law_way : MS := (sSeq (sSet 3 (mDict1 (mVar 1) (mTup mNil))) (sSeq (sSet 4 (mLst (mCons (mVar 1) mNil))) (sSeq (sFor (mRange1 (mCall fLen (mCons (mVar 0) mNil))) (gSet 5) (sIf (mAnd (mTest (mBin (pp2 iLt) (mVar 5) (mCall fLen (mCons (mVar 4) mNil)))) (mTest (mBin dNotIn (mBin dIx (mVar 4) (mVar 5)) (mVar 2)))) (sSeq (sSet 6 (mBin dIx (mBin dIx (mVar 0) (mBin dIx (mVar 4) (mVar 5))) (mK (.int 1)))) (sFor (mRange1 (mCall fLen (mCons (mVar 6) mNil))) (gSet 7) (sIf (mAnd (mTest (mBin (dIs false) (mBin dIx (mVar 6) (mVar 7)) (mK .none))) (mTest (mBin dNotIn (mBin dIx (mBin dIx (mVar 6) (mVar 7)) (mK (.int 1))) (mVar 3)))) (sSeq (sAsg (mBin dAdd (mBin dIxD (mVar 3) (mBin dIx (mVar 4) (mVar 5))) (mTup (mCons (mVar 7) mNil))) (gDk (mVar 3) (mBin dIx (mBin dIx (mVar 6) (mVar 7)) (mK (.int 1))))) (sExpr (mMeth "list" fAppend (mVar 4) (mCons (mBin dIx (mBin dIx (mVar 6) (mVar 7)) (mK (.int 1))) mNil)))) sNext))) sNext)) (sSeq (sFor (mSeq (mVar 4)) (gSet 8) (sIf (mTest (mBin dIn (mVar 8) (mVar 2))) (sRet (mBin dIxD (mVar 3) (mVar 8))) sNext)) (sRet (mK .none))))))
theorem raw__law_way (N : Nm K mg) : DefOk P w K mg base "_law_way" 1 3 (fnM 3 9 b__law_way) := def_mk N.d__law_way sc__law_way bn__law_way rfl rfl fun f cdv A outer s H E hr nd tk hp => (ss_cons (s_set (i := 3) nd (e_disp1O (e_var (i := 1)) (e_tup a_nil))) (ss_cons (s_set (i := 4) nd (e_lst (a_cons (e_var (i := 1)) a_nil))) (ss_cons (s_for hp rfl (i_range1 rfl N.f_range (e_bi b_len rfl N.f_len bt_len (a_cons (e_var (i := 0)) a_nil))) (g_name (i := 5) nd) (ss_one (s_if (t_w (w_and (t_cmp o_ltP (e_var (i := 5)) (e_bi b_len rfl N.f_len bt_len (a_cons (e_var (i := 4)) a_nil)) (nomark _)) (w_and1 (t_cmp (o_notin (hu65 hr)) (e_ix (e_var (i := 4)) (e_var (i := 5))) (e_var (i := 2)) rfl)))) (ss_cons (s_set (i := 6) nd (e_ix (e_ix (e_var (i := 0)) (e_ix (e_var (i := 4)) (e_var (i := 5)))) e_int)) (ss_one (s_for hp rfl (i_range1 rfl N.f_range (e_bi b_len rfl N.f_len bt_len (a_cons (e_var (i := 6)) a_nil))) (g_name (i := 7) nd) (ss_one (s_if (t_w (w_and (t_cmp o_isnot (e_ix (e_var (i := 6)) (e_var (i := 7))) e_none (nomark _)) (w_and1 (t_cmp (o_notin (hu65 hr)) (e_ix (e_ix (e_var (i := 6)) (e_var (i := 7))) e_int) (e_var (i := 3)) rfl)))) (ss_cons (s_asg (e_bin o_add (e_ixD (hu1 hr) (e_var (i := 3)) (e_ix (e_var (i := 4)) (e_var (i := 5)))) (e_tup (a_cons (e_var (i := 7)) a_nil))) (g_dk (hu1 hr) (e_var (i := 3)) (e_ix (e_ix (e_var (i := 6)) (e_var (i := 7))) e_int))) (ss_one (s_expr (e_append (e_var (i := 4)) (a_cons (e_ix (e_ix (e_var (i := 6)) (e_var (i := 7))) e_int) a_nil))))) ss_nil))))) ss_nil))) (ss_cons (s_for hp rfl (i_seq (e_var (i := 4))) (g_name (i := 8) nd) (ss_one (s_if (t_cmp (o_in (hu65 hr)) (e_var (i := 8)) (e_var (i := 2)) rfl) (ss_one (s_ret (e_ixD (hu1 hr) (e_var (i := 3)) (e_var (i := 8))))) ss_nil))) (ss_one (s_ret e_none))))))
theorem Mx__law_way : ∃ f : List D → S → R D, f = pureRun (fnM 3 9 b__law_way) := ⟨_, rfl⟩
noncomputable def M__law_way : List D → S → R D := Classical.choose Mx__law_way
theorem Me__law_way : M__law_way = pureRun (fnM 3 9 b__law_way) := Classical.choose_spec Mx__law_way
theorem ok__law_way (N : Nm K mg) : DefOk P w K mg base "_law_way" 1 3 M__law_way := by rw [Me__law_way]; exact (raw__law_way N).alone
theorem way_eq {m : Mac} (hm : m.Ok) {b : Nat} (hb : b < m.rs.length) {E : List Nat} (hE : ∃ e ∈ E, m.Rch b e) {s : S} :
    ∃ x, (∃ (t : List Nat) (e f : Nat), x = eT t ∧ TxOk m.n t ∧ t.length ≤ 30 ∧ e ∈ E ∧ m.read b 0 t = (f, some e)) ∧ M__law_way [.p (.tuple (m.rs.map eR)), .p (.int (b : Int)), .p (.list (E.map eN))] s = .ok (.p x) s := by
  rw [Me__law_way]; refine pure_ex rfl ?_
  have z0 : Mp.sizeOk 0 = true := by decide
  have z1 : Mp.sizeOk 1 = true := by decide
  have h30 := hm.r30
  have h8 := hm.n8
  have ro : rngOk 0 (m.rs.length : Int) := rngOk_of (by omega) (by omega) (by omega) (by omega)
  let Good := fun (W : List (Nat × List Nat)) (k : Nat) => (W.map (·.1)).Nodup ∧ (b, []) ∈ W ∧ ∀ p ∈ W, TxOk m.n p.2 ∧ p.2.length ≤ k ∧ ∃ f, m.read b 0 p.2 = (f, some p.1)
  let eW := fun (W : List (Nat × List Nat)) => W.map fun p => (p.1, eT p.2)
  have eWk : ∀ W, (eW W).map (·.1) = W.map (·.1) := fun W => by simp [eW]
  have glen : ∀ {W k}, Good W k → W.length ≤ m.rs.length := by
    rintro W k ⟨nd, _, hp⟩
    have := nd_len (n := m.rs.length) nd fun x hx => by
      obtain ⟨p, hp', rfl⟩ := List.mem_map.mp hx
      obtain ⟨h1, _, f, h2⟩ := hp p hp'
      exact Mac.read_ok hm h1 hb h2
    simpa using this
  let St := fun (W : List (Nat × List Nat)) => (⟨[some (.dct (eKv (eW W))), some (.lst ((W.map (·.1)).map fun q : Nat => D.p (.int (q : Int))))], s.w⟩ : S)
  have st0 : St [(b, [])] = ⟨[some (.dct [(.inl (b : Int), .p (.tuple []))]), some (.lst [.p (.int (b : Int))])], s.w⟩ := rfl
  simp only [b__law_way, mVar, mK, mBin, mUn, mTru, mTest, mAnd, mOr, mNot, mAndV, mOrV, mNotV, mIf, mNil, mCons, mTup, mLst, mLstF, mCall, mChain, mIsi, fIsi, tyD, tyP, mSlice, oNo, oSome, mSeq, srcOf, mRange1, mRange2, sNext, sSeq, sIf, sRet, sRetN, sExpr, sSet, sAsg, sAug, sFor, sRaise, gSet, gMore, gNone, Mp.gTup, mMeth, fAppend, mEnum, srcEnum, mDNew, fLen, fInt, truth, ptruth, asB, pp1, pp2, ret1, dIs, isN, allP, frzD, mFrz, List.map_cons, List.map_nil, List.cons_append, List.nil_append, List.length_cons, List.length_nil, List.getElem?_cons_zero, List.getElem?_cons_succ, List.getElem?_nil, List.set_cons_zero, List.set_cons_succ, if_true, ite_true, Nat.reduceAdd, Nat.reduceSub, List.replicate, Bool.false_eq_true, if_false, Bool.not_true, Bool.not_false, mp_ft, mp_tf, isTy, beq_self_eq_true, isi0, isi1, isi2, isi3, isi4, isi5, isi6, isi7, isi8, isi9, isi10, isi11, isi12, isi13, isi14, isi15, isi16, isi17, isi18, isi19, isi20, isi21, isi22, isi23, isi24, isi25, isi26, isi27, isi28, isi29, isi30, isi31, isi32, isi33, isi34, isi35, isi36, isi37, isi38, isi39, isi40, isi41, onlyF, dIx_tup, dIx_lst, dIx_ref, ixAt_0, ixAt_1, ixAt_2, ixAt_3, iEq_int, iNe_int, dAdd, iAdd, iSub, iNeg, iCmp, iLe, iLt, iGe, iGt, dMul, iMulT, iMul, iMod, iDiv, gIx, setIx, decide_true, decide_false, decide_eq_true_eq, Bool.not_eq_true, List.length_map, gets_ok, gets_bind, gets_ite, rsw_ite, rsw_seq, rsw_thn, rsw_nx, rsw_ret, rst_x, rsx_seq, rsx_nx, rsx_ret, rsx_brk, rsx_cont, rsx_ite, rsx_thn, gets_fnM, onlyP, Option.map_some, Src.items, mDict1, newDct, newLst, keyOf, z0, z1, List.nil_append, ro, rng0, Int.toNat_natCast, ← st0]
  refine for_gets (J := fun xs e s' => ∃ (k : Nat) (W : List (Nat × List Nat)) (e5 e6 e7 : Option D), xs = ((List.range m.rs.length).drop k).map (fun q => D.p (eN q)) ∧ k ≤ m.rs.length ∧ Good W k ∧ (∀ i, i < k → ∀ p, W[i]? = some p → p.1 ∉ E → ∀ r ∈ m.nx p.1, r ∈ W.map (·.1)) ∧ s' = St W ∧
    e = [some (.p (.tuple (m.rs.map eR))), some (.p (.int (b : Int))), some (.p (.list (E.map eN))), some (.ref 0), some (.ref 1), e5, e6, e7, none]) (fun _ _ _ _ => trivial) ?_ ?_ _ _ _ ⟨0, [(b, [])], none, none, none, by simp, Nat.zero_le _, ⟨by simp, by simp, by simp [TxOk, Mac.read]⟩, (fun i hi => absurd hi (Nat.not_lt_zero i)), rfl, rfl⟩
  · rintro x xs e s' ⟨k, W, e5, e6, e7, hx, hk, hG, hc, rfl, rfl⟩
    by_cases hkl : k < m.rs.length
    rotate_left
    · rw [List.drop_of_length_le (by simpa using hkl)] at hx
      cases hx
    · rw [List.drop_eq_getElem_cons (by simpa using hkl)] at hx
      simp only [List.map_cons, List.getElem_range] at hx
      obtain ⟨rfl, rfl⟩ := List.cons.inj hx
      simp only [mVar, mK, mBin, mUn, mTru, mTest, mAnd, mOr, mNot, mAndV, mOrV, mNotV, mIf, mNil, mCons, mTup, mLst, mLstF, mCall, mChain, mIsi, fIsi, tyD, tyP, mSlice, oNo, oSome, mSeq, srcOf, mRange1, mRange2, sNext, sSeq, sIf, sRet, sRetN, sExpr, sSet, sAsg, sAug, sFor, sRaise, gSet, gMore, gNone, Mp.gTup, mMeth, fAppend, mEnum, srcEnum, mDNew, fLen, fInt, truth, ptruth, asB, pp1, pp2, ret1, dIs, isN, allP, frzD, mFrz, List.map_cons, List.map_nil, List.cons_append, List.nil_append, List.length_cons, List.length_nil, List.getElem?_cons_zero, List.getElem?_cons_succ, List.getElem?_nil, List.set_cons_zero, List.set_cons_succ, if_true, ite_true, Nat.reduceAdd, Nat.reduceSub, List.replicate, Bool.false_eq_true, if_false, Bool.not_true, Bool.not_false, mp_ft, mp_tf, isTy, beq_self_eq_true, isi0, isi1, isi2, isi3, isi4, isi5, isi6, isi7, isi8, isi9, isi10, isi11, isi12, isi13, isi14, isi15, isi16, isi17, isi18, isi19, isi20, isi21, isi22, isi23, isi24, isi25, isi26, isi27, isi28, isi29, isi30, isi31, isi32, isi33, isi34, isi35, isi36, isi37, isi38, isi39, isi40, isi41, onlyF, dIx_tup, dIx_lst, dIx_ref, ixAt_0, ixAt_1, ixAt_2, ixAt_3, iEq_int, iNe_int, dAdd, iAdd, iSub, iNeg, iCmp, iLe, iLt, iGe, iGt, dMul, iMulT, iMul, iMod, iDiv, gIx, setIx, decide_true, decide_false, decide_eq_true_eq, Bool.not_eq_true, List.length_map, gets_ok, gets_bind, gets_ite, rsw_ite, rsw_seq, rsw_thn, rsw_nx, rsw_ret, rst_x, rsx_seq, rsx_nx, rsx_ret, rsx_brk, rsx_cont, rsx_ite, rsx_thn, gets_fnM, onlyP, Option.map_some, Src.items, eN]
      have hll := glen hG
      by_cases hlt : k < W.length
      · have hlt' : (k : Int) < (W.length : Int) := by omega
        obtain ⟨⟨q, tq⟩, hWk⟩ : ∃ p, W[k] = p := ⟨_, rfl⟩
        have hmem : (q, tq) ∈ W := by rw [← hWk]; exact List.getElem_mem hlt
        obtain ⟨t1, t2, f, t3⟩ := hG.2.2 (q, tq) hmem
        have t1 : TxOk m.n tq := t1
        have t2 : tq.length ≤ k := t2
        have t3 : m.read b 0 tq = (f, some q) := t3
        have hqn : q < m.rs.length := Mac.read_ok hm t1 hb t3
        have hrow := hm.row hqn
        have hsl := hrow.len
        have hixr : ixAt (m.rs.map eR) (q : Int) = some (eR (m.row q)) := by rw [ixAt_nat (by simpa using hqn)]; simp [Mac.row_eq hqn]
        have rs : rngOk 0 ((m.row q).ss.length : Int) := rngOk_of (by omega) (by omega) (by omega) (by omega)
        have hix : ixAt ((W.map (·.1)).map fun q : Nat => D.p (.int (q : Int))) (k : Int) = some (.p (.int (q : Int))) := by rw [ixAt_nat (by simpa using hlt)]; simp [eN, hWk]
        have hnin : ∀ s : S, dNotIn (.p (.int (q : Int))) (.p (.list (E.map eN))) s = .ok (.p (.bool (!decide (q ∈ E)))) s := fun s => notin_list
        simp only [St, hlt', mVar, mK, mBin, mUn, mTru, mTest, mAnd, mOr, mNot, mAndV, mOrV, mNotV, mIf, mNil, mCons, mTup, mLst, mLstF, mCall, mChain, mIsi, fIsi, tyD, tyP, mSlice, oNo, oSome, mSeq, srcOf, mRange1, mRange2, sNext, sSeq, sIf, sRet, sRetN, sExpr, sSet, sAsg, sAug, sFor, sRaise, gSet, gMore, gNone, Mp.gTup, mMeth, fAppend, mEnum, srcEnum, mDNew, fLen, fInt, truth, ptruth, asB, pp1, pp2, ret1, dIs, isN, allP, frzD, mFrz, List.map_cons, List.map_nil, List.cons_append, List.nil_append, List.length_cons, List.length_nil, List.getElem?_cons_zero, List.getElem?_cons_succ, List.getElem?_nil, List.set_cons_zero, List.set_cons_succ, if_true, ite_true, Nat.reduceAdd, Nat.reduceSub, List.replicate, Bool.false_eq_true, if_false, Bool.not_true, Bool.not_false, mp_ft, mp_tf, isTy, beq_self_eq_true, isi0, isi1, isi2, isi3, isi4, isi5, isi6, isi7, isi8, isi9, isi10, isi11, isi12, isi13, isi14, isi15, isi16, isi17, isi18, isi19, isi20, isi21, isi22, isi23, isi24, isi25, isi26, isi27, isi28, isi29, isi30, isi31, isi32, isi33, isi34, isi35, isi36, isi37, isi38, isi39, isi40, isi41, onlyF, dIx_tup, dIx_lst, dIx_ref, ixAt_0, ixAt_1, ixAt_2, ixAt_3, iEq_int, iNe_int, dAdd, iAdd, iSub, iNeg, iCmp, iLe, iLt, iGe, iGt, dMul, iMulT, iMul, iMod, iDiv, gIx, setIx, decide_true, decide_false, decide_eq_true_eq, Bool.not_eq_true, List.length_map, gets_ok, gets_bind, gets_ite, rsw_ite, rsw_seq, rsw_thn, rsw_nx, rsw_ret, rst_x, rsx_seq, rsx_nx, rsx_ret, rsx_brk, rsx_cont, rsx_ite, rsx_thn, gets_fnM, onlyP, Option.map_some, Src.items, hix, hnin]
        by_cases hin : q ∈ E
        · simp only [hin, mVar, mK, mBin, mUn, mTru, mTest, mAnd, mOr, mNot, mAndV, mOrV, mNotV, mIf, mNil, mCons, mTup, mLst, mLstF, mCall, mChain, mIsi, fIsi, tyD, tyP, mSlice, oNo, oSome, mSeq, srcOf, mRange1, mRange2, sNext, sSeq, sIf, sRet, sRetN, sExpr, sSet, sAsg, sAug, sFor, sRaise, gSet, gMore, gNone, Mp.gTup, mMeth, fAppend, mEnum, srcEnum, mDNew, fLen, fInt, truth, ptruth, asB, pp1, pp2, ret1, dIs, isN, allP, frzD, mFrz, List.map_cons, List.map_nil, List.cons_append, List.nil_append, List.length_cons, List.length_nil, List.getElem?_cons_zero, List.getElem?_cons_succ, List.getElem?_nil, List.set_cons_zero, List.set_cons_succ, if_true, ite_true, Nat.reduceAdd, Nat.reduceSub, List.replicate, Bool.false_eq_true, if_false, Bool.not_true, Bool.not_false, mp_ft, mp_tf, isTy, beq_self_eq_true, isi0, isi1, isi2, isi3, isi4, isi5, isi6, isi7, isi8, isi9, isi10, isi11, isi12, isi13, isi14, isi15, isi16, isi17, isi18, isi19, isi20, isi21, isi22, isi23, isi24, isi25, isi26, isi27, isi28, isi29, isi30, isi31, isi32, isi33, isi34, isi35, isi36, isi37, isi38, isi39, isi40, isi41, onlyF, dIx_tup, dIx_lst, dIx_ref, ixAt_0, ixAt_1, ixAt_2, ixAt_3, iEq_int, iNe_int, dAdd, iAdd, iSub, iNeg, iCmp, iLe, iLt, iGe, iGt, dMul, iMulT, iMul, iMod, iDiv, gIx, setIx, decide_true, decide_false, decide_eq_true_eq, Bool.not_eq_true, List.length_map, gets_ok, gets_bind, gets_ite, rsw_ite, rsw_seq, rsw_thn, rsw_nx, rsw_ret, rst_x, rsx_seq, rsx_nx, rsx_ret, rsx_brk, rsx_cont, rsx_ite, rsx_thn, gets_fnM, onlyP, Option.map_some, Src.items]
          refine ⟨k + 1, W, _, _, _, rfl, hkl, ⟨hG.1, hG.2.1, fun p hp => ⟨(hG.2.2 p hp).1, Nat.le_succ_of_le (hG.2.2 p hp).2.1, (hG.2.2 p hp).2.2⟩⟩, fun i hi p hp hpe => ?_, rfl, rfl⟩
          rcases Nat.lt_succ_iff_lt_or_eq.mp hi with h | rfl
          · exact hc i h p hp hpe
          · rw [List.getElem?_eq_getElem hlt, hWk] at hp
            cases hp
            exact absurd hin hpe
        · simp only [hin, mVar, mK, mBin, mUn, mTru, mTest, mAnd, mOr, mNot, mAndV, mOrV, mNotV, mIf, mNil, mCons, mTup, mLst, mLstF, mCall, mChain, mIsi, fIsi, tyD, tyP, mSlice, oNo, oSome, mSeq, srcOf, mRange1, mRange2, sNext, sSeq, sIf, sRet, sRetN, sExpr, sSet, sAsg, sAug, sFor, sRaise, gSet, gMore, gNone, Mp.gTup, mMeth, fAppend, mEnum, srcEnum, mDNew, fLen, fInt, truth, ptruth, asB, pp1, pp2, ret1, dIs, isN, allP, frzD, mFrz, List.map_cons, List.map_nil, List.cons_append, List.nil_append, List.length_cons, List.length_nil, List.getElem?_cons_zero, List.getElem?_cons_succ, List.getElem?_nil, List.set_cons_zero, List.set_cons_succ, if_true, ite_true, Nat.reduceAdd, Nat.reduceSub, List.replicate, Bool.false_eq_true, if_false, Bool.not_true, Bool.not_false, mp_ft, mp_tf, isTy, beq_self_eq_true, isi0, isi1, isi2, isi3, isi4, isi5, isi6, isi7, isi8, isi9, isi10, isi11, isi12, isi13, isi14, isi15, isi16, isi17, isi18, isi19, isi20, isi21, isi22, isi23, isi24, isi25, isi26, isi27, isi28, isi29, isi30, isi31, isi32, isi33, isi34, isi35, isi36, isi37, isi38, isi39, isi40, isi41, onlyF, dIx_tup, dIx_lst, dIx_ref, ixAt_0, ixAt_1, ixAt_2, ixAt_3, iEq_int, iNe_int, dAdd, iAdd, iSub, iNeg, iCmp, iLe, iLt, iGe, iGt, dMul, iMulT, iMul, iMod, iDiv, gIx, setIx, decide_true, decide_false, decide_eq_true_eq, Bool.not_eq_true, List.length_map, gets_ok, gets_bind, gets_ite, rsw_ite, rsw_seq, rsw_thn, rsw_nx, rsw_ret, rst_x, rsx_seq, rsx_nx, rsx_ret, rsx_brk, rsx_cont, rsx_ite, rsx_thn, gets_fnM, onlyP, Option.map_some, Src.items, hixr, ix_R1, rs, rng0, Int.toNat_natCast]
          refine rsx_of (for_gets (J := fun xs e s' => ∃ (c : Nat) (W1 : List (Nat × List Nat)) (e7 : Option D), xs = ((List.range (m.row q).ss.length).drop c).map (fun q => D.p (eN q)) ∧ c ≤ (m.row q).ss.length ∧ Good (W ++ W1) (k + 1) ∧ (∀ i, i < c → ∀ p, (m.row q).st i = some p → p.2 ∈ (W ++ W1).map (·.1)) ∧ s' = St (W ++ W1) ∧
            e = [some (.p (.tuple (m.rs.map eR))), some (.p (.int (b : Int))), some (.p (.list (E.map eN))), some (.ref 0), some (.ref 1), some (.p (.int (k : Int))), some (.p (.tuple ((m.row q).ss.map eS))), e7, none]) (fun _ _ _ _ => trivial) ?_ ?_ _ _ _ ?_)
          · rintro x xs e s' ⟨c, W1, e7, hx, hcl, hG1, hc1, rfl, rfl⟩
            by_cases hcc : c < (m.row q).ss.length
            rotate_left
            · rw [List.drop_of_length_le (by simpa using hcc)] at hx
              cases hx
            · rw [List.drop_eq_getElem_cons (by simpa using hcc)] at hx
              simp only [List.map_cons, List.getElem_range] at hx
              obtain ⟨rfl, rfl⟩ := List.cons.inj hx
              have hcn : c < m.n := by rw [← hrow.len]; exact hcc
              simp only [St, mVar, mK, mBin, mUn, mTru, mTest, mAnd, mOr, mNot, mAndV, mOrV, mNotV, mIf, mNil, mCons, mTup, mLst, mLstF, mCall, mChain, mIsi, fIsi, tyD, tyP, mSlice, oNo, oSome, mSeq, srcOf, mRange1, mRange2, sNext, sSeq, sIf, sRet, sRetN, sExpr, sSet, sAsg, sAug, sFor, sRaise, gSet, gMore, gNone, Mp.gTup, mMeth, fAppend, mEnum, srcEnum, mDNew, fLen, fInt, truth, ptruth, asB, pp1, pp2, ret1, dIs, isN, allP, frzD, mFrz, List.map_cons, List.map_nil, List.cons_append, List.nil_append, List.length_cons, List.length_nil, List.getElem?_cons_zero, List.getElem?_cons_succ, List.getElem?_nil, List.set_cons_zero, List.set_cons_succ, if_true, ite_true, Nat.reduceAdd, Nat.reduceSub, List.replicate, Bool.false_eq_true, if_false, Bool.not_true, Bool.not_false, mp_ft, mp_tf, isTy, beq_self_eq_true, isi0, isi1, isi2, isi3, isi4, isi5, isi6, isi7, isi8, isi9, isi10, isi11, isi12, isi13, isi14, isi15, isi16, isi17, isi18, isi19, isi20, isi21, isi22, isi23, isi24, isi25, isi26, isi27, isi28, isi29, isi30, isi31, isi32, isi33, isi34, isi35, isi36, isi37, isi38, isi39, isi40, isi41, onlyF, dIx_tup, dIx_lst, dIx_ref, ixAt_0, ixAt_1, ixAt_2, ixAt_3, iEq_int, iNe_int, dAdd, iAdd, iSub, iNeg, iCmp, iLe, iLt, iGe, iGt, dMul, iMulT, iMul, iMod, iDiv, gIx, setIx, decide_true, decide_false, decide_eq_true_eq, Bool.not_eq_true, List.length_map, gets_ok, gets_bind, gets_ite, rsw_ite, rsw_seq, rsw_thn, rsw_nx, rsw_ret, rst_x, rsx_seq, rsx_nx, rsx_ret, rsx_brk, rsx_cont, rsx_ite, rsx_thn, gets_fnM, onlyP, Option.map_some, Src.items, eN, ix_ss hcc]
              cases hst : (m.row q).st c with
              | none =>
                simp only [eS, mVar, mK, mBin, mUn, mTru, mTest, mAnd, mOr, mNot, mAndV, mOrV, mNotV, mIf, mNil, mCons, mTup, mLst, mLstF, mCall, mChain, mIsi, fIsi, tyD, tyP, mSlice, oNo, oSome, mSeq, srcOf, mRange1, mRange2, sNext, sSeq, sIf, sRet, sRetN, sExpr, sSet, sAsg, sAug, sFor, sRaise, gSet, gMore, gNone, Mp.gTup, mMeth, fAppend, mEnum, srcEnum, mDNew, fLen, fInt, truth, ptruth, asB, pp1, pp2, ret1, dIs, isN, allP, frzD, mFrz, List.map_cons, List.map_nil, List.cons_append, List.nil_append, List.length_cons, List.length_nil, List.getElem?_cons_zero, List.getElem?_cons_succ, List.getElem?_nil, List.set_cons_zero, List.set_cons_succ, if_true, ite_true, Nat.reduceAdd, Nat.reduceSub, List.replicate, Bool.false_eq_true, if_false, Bool.not_true, Bool.not_false, mp_ft, mp_tf, isTy, beq_self_eq_true, isi0, isi1, isi2, isi3, isi4, isi5, isi6, isi7, isi8, isi9, isi10, isi11, isi12, isi13, isi14, isi15, isi16, isi17, isi18, isi19, isi20, isi21, isi22, isi23, isi24, isi25, isi26, isi27, isi28, isi29, isi30, isi31, isi32, isi33, isi34, isi35, isi36, isi37, isi38, isi39, isi40, isi41, onlyF, dIx_tup, dIx_lst, dIx_ref, ixAt_0, ixAt_1, ixAt_2, ixAt_3, iEq_int, iNe_int, dAdd, iAdd, iSub, iNeg, iCmp, iLe, iLt, iGe, iGt, dMul, iMulT, iMul, iMod, iDiv, gIx, setIx, decide_true, decide_false, decide_eq_true_eq, Bool.not_eq_true, List.length_map, gets_ok, gets_bind, gets_ite, rsw_ite, rsw_seq, rsw_thn, rsw_nx, rsw_ret, rst_x, rsx_seq, rsx_nx, rsx_ret, rsx_brk, rsx_cont, rsx_ite, rsx_thn, gets_fnM, onlyP, Option.map_some, Src.items]
                refine ⟨c + 1, W1, _, rfl, hcc, hG1, fun i hi p hp => ?_, rfl, rfl⟩
                rcases Nat.lt_succ_iff_lt_or_eq.mp hi with h | rfl
                · exact hc1 i h p hp
                · rw [hst] at hp; cases hp
              | some p =>
                have hgl := glen hG1
                have hnk : ∀ w : GH, dNotIn (.p (.int (p.2 : Int))) (.ref 0) ⟨[some (.dct (eKv (eW (W ++ W1)))), some (.lst (((W ++ W1).map (·.1)).map fun q : Nat => D.p (.int (q : Int))))], w⟩ = .ok (.p (.bool (!decide (p.2 ∈ (W ++ W1).map (·.1))))) ⟨[some (.dct (eKv (eW (W ++ W1)))), some (.lst (((W ++ W1).map (·.1)).map fun q : Nat => D.p (.int (q : Int))))], w⟩ := fun w => by
                  have := notin_kv (W := eW (W ++ W1)) (q := p.2) (i := 0) (s := ⟨[some (.dct (eKv (eW (W ++ W1)))), some (.lst (((W ++ W1).map (·.1)).map fun q : Nat => D.p (.int (q : Int))))], w⟩) rfl (by rw [eWk]; exact hG1.1)
                  rw [eWk] at this
                  exact this
                simp only [eS, mVar, mK, mBin, mUn, mTru, mTest, mAnd, mOr, mNot, mAndV, mOrV, mNotV, mIf, mNil, mCons, mTup, mLst, mLstF, mCall, mChain, mIsi, fIsi, tyD, tyP, mSlice, oNo, oSome, mSeq, srcOf, mRange1, mRange2, sNext, sSeq, sIf, sRet, sRetN, sExpr, sSet, sAsg, sAug, sFor, sRaise, gSet, gMore, gNone, Mp.gTup, mMeth, fAppend, mEnum, srcEnum, mDNew, fLen, fInt, truth, ptruth, asB, pp1, pp2, ret1, dIs, isN, allP, frzD, mFrz, List.map_cons, List.map_nil, List.cons_append, List.nil_append, List.length_cons, List.length_nil, List.getElem?_cons_zero, List.getElem?_cons_succ, List.getElem?_nil, List.set_cons_zero, List.set_cons_succ, if_true, ite_true, Nat.reduceAdd, Nat.reduceSub, List.replicate, Bool.false_eq_true, if_false, Bool.not_true, Bool.not_false, mp_ft, mp_tf, isTy, beq_self_eq_true, isi0, isi1, isi2, isi3, isi4, isi5, isi6, isi7, isi8, isi9, isi10, isi11, isi12, isi13, isi14, isi15, isi16, isi17, isi18, isi19, isi20, isi21, isi22, isi23, isi24, isi25, isi26, isi27, isi28, isi29, isi30, isi31, isi32, isi33, isi34, isi35, isi36, isi37, isi38, isi39, isi40, isi41, onlyF, dIx_tup, dIx_lst, dIx_ref, ixAt_0, ixAt_1, ixAt_2, ixAt_3, iEq_int, iNe_int, dAdd, iAdd, iSub, iNeg, iCmp, iLe, iLt, iGe, iGt, dMul, iMulT, iMul, iMod, iDiv, gIx, setIx, decide_true, decide_false, decide_eq_true_eq, Bool.not_eq_true, List.length_map, gets_ok, gets_bind, gets_ite, rsw_ite, rsw_seq, rsw_thn, rsw_nx, rsw_ret, rst_x, rsx_seq, rsx_nx, rsx_ret, rsx_brk, rsx_cont, rsx_ite, rsx_thn, gets_fnM, onlyP, Option.map_some, Src.items, hnk]
                by_cases hp2 : p.2 ∈ (W ++ W1).map (·.1)
                · simp only [hp2, mVar, mK, mBin, mUn, mTru, mTest, mAnd, mOr, mNot, mAndV, mOrV, mNotV, mIf, mNil, mCons, mTup, mLst, mLstF, mCall, mChain, mIsi, fIsi, tyD, tyP, mSlice, oNo, oSome, mSeq, srcOf, mRange1, mRange2, sNext, sSeq, sIf, sRet, sRetN, sExpr, sSet, sAsg, sAug, sFor, sRaise, gSet, gMore, gNone, Mp.gTup, mMeth, fAppend, mEnum, srcEnum, mDNew, fLen, fInt, truth, ptruth, asB, pp1, pp2, ret1, dIs, isN, allP, frzD, mFrz, List.map_cons, List.map_nil, List.cons_append, List.nil_append, List.length_cons, List.length_nil, List.getElem?_cons_zero, List.getElem?_cons_succ, List.getElem?_nil, List.set_cons_zero, List.set_cons_succ, if_true, ite_true, Nat.reduceAdd, Nat.reduceSub, List.replicate, Bool.false_eq_true, if_false, Bool.not_true, Bool.not_false, mp_ft, mp_tf, isTy, beq_self_eq_true, isi0, isi1, isi2, isi3, isi4, isi5, isi6, isi7, isi8, isi9, isi10, isi11, isi12, isi13, isi14, isi15, isi16, isi17, isi18, isi19, isi20, isi21, isi22, isi23, isi24, isi25, isi26, isi27, isi28, isi29, isi30, isi31, isi32, isi33, isi34, isi35, isi36, isi37, isi38, isi39, isi40, isi41, onlyF, dIx_tup, dIx_lst, dIx_ref, ixAt_0, ixAt_1, ixAt_2, ixAt_3, iEq_int, iNe_int, dAdd, iAdd, iSub, iNeg, iCmp, iLe, iLt, iGe, iGt, dMul, iMulT, iMul, iMod, iDiv, gIx, setIx, decide_true, decide_false, decide_eq_true_eq, Bool.not_eq_true, List.length_map, gets_ok, gets_bind, gets_ite, rsw_ite, rsw_seq, rsw_thn, rsw_nx, rsw_ret, rst_x, rsx_seq, rsx_nx, rsx_ret, rsx_brk, rsx_cont, rsx_ite, rsx_thn, gets_fnM, onlyP, Option.map_some, Src.items]
                  refine ⟨c + 1, W1, _, rfl, hcc, hG1, fun i hi p' hp' => ?_, rfl, rfl⟩
                  rcases Nat.lt_succ_iff_lt_or_eq.mp hi with h | rfl
                  · exact hc1 i h p' hp'
                  · rw [hst] at hp'; cases hp'; exact hp2
                · have hix2 : ixAt (((W ++ W1).map (·.1)).map fun q : Nat => D.p (.int (q : Int))) (k : Int) = some (.p (.int (q : Int))) := by
                    rw [ixAt_nat (by simp; omega)]
                    simp only [List.getElem_map, List.getElem_append_left hlt, hWk, eN]
                  have hkv : ∀ w : GH, dIxD (.ref 0) (.p (.int (q : Int))) ⟨[some (.dct (eKv (eW (W ++ W1)))), some (.lst (((W ++ W1).map (·.1)).map fun q : Nat => D.p (.int (q : Int))))], w⟩ = .ok (.p (eT tq)) ⟨[some (.dct (eKv (eW (W ++ W1)))), some (.lst (((W ++ W1).map (·.1)).map fun q : Nat => D.p (.int (q : Int))))], w⟩ := fun w => by
                    refine ix_kv rfl (by rw [eWk]; exact hG1.1) ?_
                    exact List.mem_map.mpr ⟨(q, tq), List.mem_append_left _ hmem, rfl⟩
                  have zt : Mp.sizeOk (tq.length + 1) = true := sizeOk_of (by omega)
                  have zd : Mp.sizeOk ((W ++ W1).length + 1) = true := sizeOk_of (by omega)
                  have eWl : (eW (W ++ W1)).length = (W ++ W1).length := by simp [eW]
                  have hset : setK (eKv (eW (W ++ W1))) (.inl (p.2 : Int)) (.p (.tuple (tq.map eN ++ [.int (c : Int)]))) = eKv (eW (W ++ (W1 ++ [(p.2, tq ++ [c])]))) := by
                    rw [kv_set (by rw [eWk]; exact hp2)]
                    simp [eW, eT, eN]
                  have hixs : ixAt ((m.row q).ss.map eS) (c : Int) = some (.tuple [.int (p.1 : Int), .int (p.2 : Int)]) := by
                    rw [ixAt_nat (by simpa using hcc)]
                    simp [MRow.st_eq hcc, hst, eS]
                  simp only [hp2, mVar, mK, mBin, mUn, mTru, mTest, mAnd, mOr, mNot, mAndV, mOrV, mNotV, mIf, mNil, mCons, mTup, mLst, mLstF, mCall, mChain, mIsi, fIsi, tyD, tyP, mSlice, oNo, oSome, mSeq, srcOf, mRange1, mRange2, sNext, sSeq, sIf, sRet, sRetN, sExpr, sSet, sAsg, sAug, sFor, sRaise, gSet, gMore, gNone, Mp.gTup, mMeth, fAppend, mEnum, srcEnum, mDNew, fLen, fInt, truth, ptruth, asB, pp1, pp2, ret1, dIs, isN, allP, frzD, mFrz, List.map_cons, List.map_nil, List.cons_append, List.nil_append, List.length_cons, List.length_nil, List.getElem?_cons_zero, List.getElem?_cons_succ, List.getElem?_nil, List.set_cons_zero, List.set_cons_succ, if_true, ite_true, Nat.reduceAdd, Nat.reduceSub, List.replicate, Bool.false_eq_true, if_false, Bool.not_true, Bool.not_false, mp_ft, mp_tf, isTy, beq_self_eq_true, isi0, isi1, isi2, isi3, isi4, isi5, isi6, isi7, isi8, isi9, isi10, isi11, isi12, isi13, isi14, isi15, isi16, isi17, isi18, isi19, isi20, isi21, isi22, isi23, isi24, isi25, isi26, isi27, isi28, isi29, isi30, isi31, isi32, isi33, isi34, isi35, isi36, isi37, isi38, isi39, isi40, isi41, onlyF, dIx_tup, dIx_lst, dIx_ref, ixAt_0, ixAt_1, ixAt_2, ixAt_3, iEq_int, iNe_int, dAdd, iAdd, iSub, iNeg, iCmp, iLe, iLt, iGe, iGt, dMul, iMulT, iMul, iMod, iDiv, gIx, setIx, decide_true, decide_false, decide_eq_true_eq, Bool.not_eq_true, List.length_map, gets_ok, gets_bind, gets_ite, rsw_ite, rsw_seq, rsw_thn, rsw_nx, rsw_ret, rst_x, rsx_seq, rsx_nx, rsx_ret, rsx_brk, rsx_cont, rsx_ite, rsx_thn, gets_fnM, onlyP, Option.map_some, Src.items, hix2, hixs, hkv, eT, zt, z1, Option.map_some, gDk, setDk, keyOf, eKv_len, eWl, zd, hset, List.length_map]
                  have tx : TxOk m.n (tq ++ [c]) := by
                    intro y hy
                    rcases List.mem_append.mp hy with h | h
                    · exact t1 y h
                    · rw [List.mem_singleton.mp h]; exact hcn
                  refine ⟨c + 1, W1 ++ [(p.2, tq ++ [c])], _, rfl, hcc, ?_, ?_, ?_, rfl⟩
                  · rw [← List.append_assoc]
                    refine ⟨?_, List.mem_append_left _ hG1.2.1, ?_⟩
                    · rw [List.map_append, List.nodup_append]
                      refine ⟨hG1.1, by simp, ?_⟩
                      simp only [List.map_cons, List.map_nil, List.mem_singleton, forall_eq, ne_eq]
                      exact fun a ha e => hp2 (e ▸ ha)
                    · intro q hq
                      rcases List.mem_append.mp hq with h | h
                      · exact hG1.2.2 q h
                      · rw [List.mem_singleton.mp h]
                        refine ⟨tx, by simp; omega, f + p.1, ?_⟩
                        rw [Mac.read_app, t3]
                        simp only [Mac.read, hst]
                  · intro i hi p' hp'
                    rw [← List.append_assoc, List.map_append]
                    rcases Nat.lt_succ_iff_lt_or_eq.mp hi with h | rfl
                    · exact List.mem_append_left _ (hc1 i h p' hp')
                    · rw [hst] at hp'; cases hp'
                      exact List.mem_append_right _ (by simp)
                  · simp only [St, ← List.append_assoc, List.map_append, List.map_cons, List.map_nil, eN]
          · rintro e s' ⟨c, W1, e7, hx, hcl, hG1, hc1, rfl, rfl⟩
            have hce : c = (m.row q).ss.length := by
              have := congrArg List.length hx
              simp at this
              omega
            subst hce
            refine ⟨k + 1, W ++ W1, _, _, _, rfl, hkl, hG1, fun i hi p hp hpe => ?_, rfl, rfl⟩
            have hi2 : i < W.length := by omega
            rw [List.getElem?_append_left hi2] at hp
            rcases Nat.lt_succ_iff_lt_or_eq.mp hi with h | rfl
            · intro r hr
              rw [List.map_append]
              exact List.mem_append_left _ (hc i h p hp hpe r hr)
            · rw [List.getElem?_eq_getElem hi2, hWk] at hp
              cases hp
              intro r hr
              obtain ⟨st, hs, e⟩ := List.mem_filterMap.mp hr
              obtain ⟨p', rfl, rfl⟩ := Option.map_eq_some_iff.mp e
              obtain ⟨j, hj, ej⟩ := List.mem_iff_getElem.mp hs
              exact hc1 j hj p' (by rw [← MRow.st_eq hj]; exact ej)
          · refine ⟨0, [], _, by simp, Nat.zero_le _, ?_, (fun i hi => absurd hi (Nat.not_lt_zero i)), by simp [St], rfl⟩
            rw [List.append_nil]
            exact ⟨hG.1, hG.2.1, fun p hp => ⟨(hG.2.2 p hp).1, Nat.le_succ_of_le (hG.2.2 p hp).2.1, (hG.2.2 p hp).2.2⟩⟩
      · have hlt' : ¬ ((k : Int) < (W.length : Int)) := by omega
        simp only [St, hlt', mVar, mK, mBin, mUn, mTru, mTest, mAnd, mOr, mNot, mAndV, mOrV, mNotV, mIf, mNil, mCons, mTup, mLst, mLstF, mCall, mChain, mIsi, fIsi, tyD, tyP, mSlice, oNo, oSome, mSeq, srcOf, mRange1, mRange2, sNext, sSeq, sIf, sRet, sRetN, sExpr, sSet, sAsg, sAug, sFor, sRaise, gSet, gMore, gNone, Mp.gTup, mMeth, fAppend, mEnum, srcEnum, mDNew, fLen, fInt, truth, ptruth, asB, pp1, pp2, ret1, dIs, isN, allP, frzD, mFrz, List.map_cons, List.map_nil, List.cons_append, List.nil_append, List.length_cons, List.length_nil, List.getElem?_cons_zero, List.getElem?_cons_succ, List.getElem?_nil, List.set_cons_zero, List.set_cons_succ, if_true, ite_true, Nat.reduceAdd, Nat.reduceSub, List.replicate, Bool.false_eq_true, if_false, Bool.not_true, Bool.not_false, mp_ft, mp_tf, isTy, beq_self_eq_true, isi0, isi1, isi2, isi3, isi4, isi5, isi6, isi7, isi8, isi9, isi10, isi11, isi12, isi13, isi14, isi15, isi16, isi17, isi18, isi19, isi20, isi21, isi22, isi23, isi24, isi25, isi26, isi27, isi28, isi29, isi30, isi31, isi32, isi33, isi34, isi35, isi36, isi37, isi38, isi39, isi40, isi41, onlyF, dIx_tup, dIx_lst, dIx_ref, ixAt_0, ixAt_1, ixAt_2, ixAt_3, iEq_int, iNe_int, dAdd, iAdd, iSub, iNeg, iCmp, iLe, iLt, iGe, iGt, dMul, iMulT, iMul, iMod, iDiv, gIx, setIx, decide_true, decide_false, decide_eq_true_eq, Bool.not_eq_true, List.length_map, gets_ok, gets_bind, gets_ite, rsw_ite, rsw_seq, rsw_thn, rsw_nx, rsw_ret, rst_x, rsx_seq, rsx_nx, rsx_ret, rsx_brk, rsx_cont, rsx_ite, rsx_thn, gets_fnM, onlyP, Option.map_some, Src.items]
        refine ⟨k + 1, W, _, _, _, rfl, hkl, ⟨hG.1, hG.2.1, fun p hp => ⟨(hG.2.2 p hp).1, Nat.le_succ_of_le (hG.2.2 p hp).2.1, (hG.2.2 p hp).2.2⟩⟩, fun i hi p hp hpe => ?_, rfl, rfl⟩
        have := (List.getElem?_eq_some_iff.mp hp).1
        exact hc i (by omega) p hp hpe
  · rintro e s' ⟨k, W, e5, e6, e7, hx, hk, hG, hc, rfl, rfl⟩
    have hkl : k = m.rs.length := by
      have := congrArg List.length hx
      simp at this
      omega
    subst hkl
    have hll := glen hG
    have hhit : ∃ p ∈ W, p.1 ∈ E := by
      apply Classical.byContradiction
      intro hno
      have hno' : ∀ p ∈ W, p.1 ∉ E := fun p hp hpe => hno ⟨p, hp, hpe⟩
      obtain ⟨e, he, hr⟩ := hE
      have hcl : e ∈ W.map (·.1) := Mac.Rch.closed (F := fun q => q ∈ W.map (·.1)) (fun q hq r hr => by
        obtain ⟨p, hp, rfl⟩ := List.mem_map.mp hq
        obtain ⟨i, hi, rfl⟩ := List.mem_iff_getElem.mp hp
        exact hc i (by omega) W[i] (List.getElem?_eq_getElem hi) (hno' _ hp) r hr) (List.mem_map.mpr ⟨_, hG.2.1, rfl⟩) hr
      obtain ⟨p, hp, rfl⟩ := List.mem_map.mp hcl
      exact hno' p hp he
    simp only [St, mVar, mK, mBin, mUn, mTru, mTest, mAnd, mOr, mNot, mAndV, mOrV, mNotV, mIf, mNil, mCons, mTup, mLst, mLstF, mCall, mChain, mIsi, fIsi, tyD, tyP, mSlice, oNo, oSome, mSeq, srcOf, mRange1, mRange2, sNext, sSeq, sIf, sRet, sRetN, sExpr, sSet, sAsg, sAug, sFor, sRaise, gSet, gMore, gNone, Mp.gTup, mMeth, fAppend, mEnum, srcEnum, mDNew, fLen, fInt, truth, ptruth, asB, pp1, pp2, ret1, dIs, isN, allP, frzD, mFrz, List.map_cons, List.map_nil, List.cons_append, List.nil_append, List.length_cons, List.length_nil, List.getElem?_cons_zero, List.getElem?_cons_succ, List.getElem?_nil, List.set_cons_zero, List.set_cons_succ, if_true, ite_true, Nat.reduceAdd, Nat.reduceSub, List.replicate, Bool.false_eq_true, if_false, Bool.not_true, Bool.not_false, mp_ft, mp_tf, isTy, beq_self_eq_true, isi0, isi1, isi2, isi3, isi4, isi5, isi6, isi7, isi8, isi9, isi10, isi11, isi12, isi13, isi14, isi15, isi16, isi17, isi18, isi19, isi20, isi21, isi22, isi23, isi24, isi25, isi26, isi27, isi28, isi29, isi30, isi31, isi32, isi33, isi34, isi35, isi36, isi37, isi38, isi39, isi40, isi41, onlyF, dIx_tup, dIx_lst, dIx_ref, ixAt_0, ixAt_1, ixAt_2, ixAt_3, iEq_int, iNe_int, dAdd, iAdd, iSub, iNeg, iCmp, iLe, iLt, iGe, iGt, dMul, iMulT, iMul, iMod, iDiv, gIx, setIx, decide_true, decide_false, decide_eq_true_eq, Bool.not_eq_true, List.length_map, gets_ok, gets_bind, gets_ite, rsw_ite, rsw_seq, rsw_thn, rsw_nx, rsw_ret, rst_x, rsx_seq, rsx_nx, rsx_ret, rsx_brk, rsx_cont, rsx_ite, rsx_thn, gets_fnM, onlyP, Option.map_some, Src.items]
    refine for_gets (J := fun xs e s' => ∃ (W1 W2 : List (Nat × List Nat)) (e8 : Option D), xs = (W2.map (·.1)).map (fun q : Nat => D.p (.int (q : Int))) ∧ W = W1 ++ W2 ∧ (∃ p ∈ W2, p.1 ∈ E) ∧ s' = St W ∧ e = [some (.p (.tuple (m.rs.map eR))), some (.p (.int (b : Int))), some (.p (.list (E.map eN))), some (.ref 0), some (.ref 1), e5, e6, e7, e8]) ?_ ?_ ?_ _ _ _ ⟨[], W, none, rfl, rfl, hhit, rfl, rfl⟩
    · rintro xs e s' ⟨W1, W2, e8, _, _, _, rfl, _⟩
      rfl
    · rintro x xs e s' ⟨W1, W2, e8, hx, hW, ⟨p0, hp0, hp0e⟩, rfl, rfl⟩
      cases W2 with
      | nil => cases hx
      | cons p W2 =>
        cases hx
        have hin : ∀ s : S, dIn (.p (.int (p.1 : Int))) (.p (.list (E.map eN))) s = .ok (.p (.bool (decide (p.1 ∈ E)))) s := fun s => in_list
        have hpW : p ∈ W := by rw [hW]; simp
        simp only [St, mVar, mK, mBin, mUn, mTru, mTest, mAnd, mOr, mNot, mAndV, mOrV, mNotV, mIf, mNil, mCons, mTup, mLst, mLstF, mCall, mChain, mIsi, fIsi, tyD, tyP, mSlice, oNo, oSome, mSeq, srcOf, mRange1, mRange2, sNext, sSeq, sIf, sRet, sRetN, sExpr, sSet, sAsg, sAug, sFor, sRaise, gSet, gMore, gNone, Mp.gTup, mMeth, fAppend, mEnum, srcEnum, mDNew, fLen, fInt, truth, ptruth, asB, pp1, pp2, ret1, dIs, isN, allP, frzD, mFrz, List.map_cons, List.map_nil, List.cons_append, List.nil_append, List.length_cons, List.length_nil, List.getElem?_cons_zero, List.getElem?_cons_succ, List.getElem?_nil, List.set_cons_zero, List.set_cons_succ, if_true, ite_true, Nat.reduceAdd, Nat.reduceSub, List.replicate, Bool.false_eq_true, if_false, Bool.not_true, Bool.not_false, mp_ft, mp_tf, isTy, beq_self_eq_true, isi0, isi1, isi2, isi3, isi4, isi5, isi6, isi7, isi8, isi9, isi10, isi11, isi12, isi13, isi14, isi15, isi16, isi17, isi18, isi19, isi20, isi21, isi22, isi23, isi24, isi25, isi26, isi27, isi28, isi29, isi30, isi31, isi32, isi33, isi34, isi35, isi36, isi37, isi38, isi39, isi40, isi41, onlyF, dIx_tup, dIx_lst, dIx_ref, ixAt_0, ixAt_1, ixAt_2, ixAt_3, iEq_int, iNe_int, dAdd, iAdd, iSub, iNeg, iCmp, iLe, iLt, iGe, iGt, dMul, iMulT, iMul, iMod, iDiv, gIx, setIx, decide_true, decide_false, decide_eq_true_eq, Bool.not_eq_true, List.length_map, gets_ok, gets_bind, gets_ite, rsw_ite, rsw_seq, rsw_thn, rsw_nx, rsw_ret, rst_x, rsx_seq, rsx_nx, rsx_ret, rsx_brk, rsx_cont, rsx_ite, rsx_thn, gets_fnM, onlyP, Option.map_some, Src.items, eN, hin]
        by_cases hpe : p.1 ∈ E
        · have hkv : ∀ w : GH, dIxD (.ref 0) (.p (.int (p.1 : Int))) ⟨[some (.dct (eKv (eW W))), some (.lst ((W.map (·.1)).map fun q : Nat => D.p (.int (q : Int))))], w⟩ = .ok (.p (eT p.2)) ⟨[some (.dct (eKv (eW W))), some (.lst ((W.map (·.1)).map fun q : Nat => D.p (.int (q : Int))))], w⟩ := fun w => by
            refine ix_kv rfl (by rw [eWk]; exact hG.1) ?_
            exact List.mem_map.mpr ⟨p, hpW, rfl⟩
          obtain ⟨t1, t2, f, t3⟩ := hG.2.2 p hpW
          simp only [hpe, mVar, mK, mBin, mUn, mTru, mTest, mAnd, mOr, mNot, mAndV, mOrV, mNotV, mIf, mNil, mCons, mTup, mLst, mLstF, mCall, mChain, mIsi, fIsi, tyD, tyP, mSlice, oNo, oSome, mSeq, srcOf, mRange1, mRange2, sNext, sSeq, sIf, sRet, sRetN, sExpr, sSet, sAsg, sAug, sFor, sRaise, gSet, gMore, gNone, Mp.gTup, mMeth, fAppend, mEnum, srcEnum, mDNew, fLen, fInt, truth, ptruth, asB, pp1, pp2, ret1, dIs, isN, allP, frzD, mFrz, List.map_cons, List.map_nil, List.cons_append, List.nil_append, List.length_cons, List.length_nil, List.getElem?_cons_zero, List.getElem?_cons_succ, List.getElem?_nil, List.set_cons_zero, List.set_cons_succ, if_true, ite_true, Nat.reduceAdd, Nat.reduceSub, List.replicate, Bool.false_eq_true, if_false, Bool.not_true, Bool.not_false, mp_ft, mp_tf, isTy, beq_self_eq_true, isi0, isi1, isi2, isi3, isi4, isi5, isi6, isi7, isi8, isi9, isi10, isi11, isi12, isi13, isi14, isi15, isi16, isi17, isi18, isi19, isi20, isi21, isi22, isi23, isi24, isi25, isi26, isi27, isi28, isi29, isi30, isi31, isi32, isi33, isi34, isi35, isi36, isi37, isi38, isi39, isi40, isi41, onlyF, dIx_tup, dIx_lst, dIx_ref, ixAt_0, ixAt_1, ixAt_2, ixAt_3, iEq_int, iNe_int, dAdd, iAdd, iSub, iNeg, iCmp, iLe, iLt, iGe, iGt, dMul, iMulT, iMul, iMod, iDiv, gIx, setIx, decide_true, decide_false, decide_eq_true_eq, Bool.not_eq_true, List.length_map, gets_ok, gets_bind, gets_ite, rsw_ite, rsw_seq, rsw_thn, rsw_nx, rsw_ret, rst_x, rsx_seq, rsx_nx, rsx_ret, rsx_brk, rsx_cont, rsx_ite, rsx_thn, gets_fnM, onlyP, Option.map_some, Src.items]
          exact ⟨_, _, hkv _, rfl, _, rfl, p.2, p.1, f, rfl, t1, by omega, hpe, t3⟩
        · simp only [hpe, mVar, mK, mBin, mUn, mTru, mTest, mAnd, mOr, mNot, mAndV, mOrV, mNotV, mIf, mNil, mCons, mTup, mLst, mLstF, mCall, mChain, mIsi, fIsi, tyD, tyP, mSlice, oNo, oSome, mSeq, srcOf, mRange1, mRange2, sNext, sSeq, sIf, sRet, sRetN, sExpr, sSet, sAsg, sAug, sFor, sRaise, gSet, gMore, gNone, Mp.gTup, mMeth, fAppend, mEnum, srcEnum, mDNew, fLen, fInt, truth, ptruth, asB, pp1, pp2, ret1, dIs, isN, allP, frzD, mFrz, List.map_cons, List.map_nil, List.cons_append, List.nil_append, List.length_cons, List.length_nil, List.getElem?_cons_zero, List.getElem?_cons_succ, List.getElem?_nil, List.set_cons_zero, List.set_cons_succ, if_true, ite_true, Nat.reduceAdd, Nat.reduceSub, List.replicate, Bool.false_eq_true, if_false, Bool.not_true, Bool.not_false, mp_ft, mp_tf, isTy, beq_self_eq_true, isi0, isi1, isi2, isi3, isi4, isi5, isi6, isi7, isi8, isi9, isi10, isi11, isi12, isi13, isi14, isi15, isi16, isi17, isi18, isi19, isi20, isi21, isi22, isi23, isi24, isi25, isi26, isi27, isi28, isi29, isi30, isi31, isi32, isi33, isi34, isi35, isi36, isi37, isi38, isi39, isi40, isi41, onlyF, dIx_tup, dIx_lst, dIx_ref, ixAt_0, ixAt_1, ixAt_2, ixAt_3, iEq_int, iNe_int, dAdd, iAdd, iSub, iNeg, iCmp, iLe, iLt, iGe, iGt, dMul, iMulT, iMul, iMod, iDiv, gIx, setIx, decide_true, decide_false, decide_eq_true_eq, Bool.not_eq_true, List.length_map, gets_ok, gets_bind, gets_ite, rsw_ite, rsw_seq, rsw_thn, rsw_nx, rsw_ret, rst_x, rsx_seq, rsx_nx, rsx_ret, rsx_brk, rsx_cont, rsx_ite, rsx_thn, gets_fnM, onlyP, Option.map_some, Src.items]
          refine ⟨W1 ++ [p], W2, _, rfl, by rw [hW]; simp, ⟨p0, ?_, hp0e⟩, trivial, rfl⟩
          rcases List.mem_cons.mp hp0 with h | h
          · rw [h] at hp0e; exact absurd hp0e hpe
          · exact h
    · rintro e s' ⟨W1, W2, e8, hx, hW, ⟨p0, hp0, hp0e⟩, rfl, rfl⟩
      cases W2 with
      | nil => cases hp0
      | cons p W2 => cases hx

/-! _law_short_texts -/
theorem sc__law_short_texts : FnScope ["_law_size", "_law_most", "_law_rows", "_law_found", "_law_turn", "_law_later", "_law_row", "_law_letter"] ["_law_size", "_law_most"] (defScope t__law_short_texts) := ⟨rfl, rfl, rfl, by decide +kernel, rfl, by decide +kernel, by decide +kernel⟩
theorem bn__law_short_texts : BindN "_law_short_texts" t__law_short_texts ["_law_size", "_law_most"] := fun _ _ _ _ _ _ us hl => match us, hl with | [_, _], _ => rfl
noncomputable def b__law_short_texts : MS := (sSeq (sSet 2 (mLstF (mCons (mTup mNil) mNil))) (sSeq (sSet 3 (mLstF (mCons (mTup mNil) mNil))) (sSeq (sFor (mRange1 (mK (.int 8))) (gSet 4) (sSeq (sSet 5 (mLstF mNil)) (sSeq (sIf (mTest (mBin (pp2 iLe) (mBin dMul (mCall fLen (mCons (mVar 2) mNil)) (mVar 0)) (mVar 1))) (sFor (mSeq (mVar 2)) (gSet 6) (sSet 5 (mBin dCatF (mVar 5) (mLc (mRange1 (mVar 0)) [7] (gSet 7) mYes (mBin dAdd (mVar 6) (mTup (mCons (mVar 7) mNil))) kFrz)))) sNext) (sSeq (sSet 2 (mVar 5)) (sSet 3 (mBin dCatF (mVar 3) (mVar 2))))))) (sRet (mVar 3)))))
theorem raw__law_short_texts (N : Nm K mg) : DefOk P w K mg base "_law_short_texts" 1 2 (fnM 2 8 b__law_short_texts) := def_mk N.d__law_short_texts sc__law_short_texts bn__law_short_texts rfl rfl fun f cdv A outer s H E hr nd tk hp => (ss_cons (s_set (i := 2) nd (e_lstF (a_cons (e_tup a_nil) a_nil))) (ss_cons (s_set (i := 3) nd (e_lstF (a_cons (e_tup a_nil) a_nil))) (ss_cons (s_for hp rfl (i_range1 rfl N.f_range e_int) (g_name (i := 4) nd) (ss_cons (s_set (i := 5) nd (e_lstF a_nil)) (ss_cons (s_if (t_cmp o_leP (e_bin o_mulT (e_bi b_len rfl N.f_len bt_len (a_cons (e_var (i := 2)) a_nil)) (e_var (i := 0))) (e_var (i := 1)) (nomark _)) (ss_one (s_for hp rfl (i_seq (e_var (i := 2))) (g_name (i := 6) nd) (ss_one (s_set (i := 5) nd (e_catF (e_var (i := 5)) (e_lcF (own := [("_law_letter", 7)]) rfl nd (i_range1 rfl N.f_range (e_var (i := 0))) (blkOk_by (N := ["_law_size", "_law_most", "_law_rows", "_law_found", "_law_turn", "_law_later", "_law_row", "_law_letter"]) (sc := defScope t__law_short_texts) (own := [("_law_letter", 7)]) (by decide +kernel)) (tg_name (i := 7) (by decide)) (fun _ _ _ _ _ => pg_name (i := 7) nd rfl (by first | exact Or.inl rfl | exact Or.inr rfl)) (fun _ _ _ _ _ => c_no) (fun _ _ _ _ _ => (e_bin o_add (e_var (i := 6)) (e_tup (a_cons (e_var (i := 7)) a_nil)))))))))) ss_nil) (ss_cons (s_set (i := 2) nd (e_var (i := 5))) (ss_one (s_set (i := 3) nd (e_catF (e_var (i := 3)) (e_var (i := 2))))))))) (ss_one (s_ret (e_var (i := 3)))))))
theorem Mx__law_short_texts : ∃ f : List D → S → R D, f = pureRun (fnM 2 8 b__law_short_texts) := ⟨_, rfl⟩
noncomputable def M__law_short_texts : List D → S → R D := Classical.choose Mx__law_short_texts
theorem Me__law_short_texts : M__law_short_texts = pureRun (fnM 2 8 b__law_short_texts) := Classical.choose_spec Mx__law_short_texts
theorem ok__law_short_texts (N : Nm K mg) : DefOk P w K mg base "_law_short_texts" 1 2 M__law_short_texts := by rw [Me__law_short_texts]; exact (raw__law_short_texts N).alone
theorem short_eq {n : Nat} (h1 : 1 ≤ n) (h8 : n ≤ 8) {s : S} : ∃ x, (∃ L : List (List Nat), x = .list (L.map eT) ∧ (∀ t ∈ L, TxOk n t ∧ t.length ≤ 8) ∧ L.length ≤ 2000) ∧ M__law_short_texts [.p (.int (n : Int)), .p (.int 200)] s = .ok (.p x) s := by
  generalize hc : (200 : Int) = cc
  rw [Me__law_short_texts]; refine pure_ex rfl ?_
  have z0 : Mp.sizeOk 0 = true := by decide
  have z1 : Mp.sizeOk 1 = true := by decide
  have ro8 : rngOk 0 8 := rngOk_of (by omega) (by omega) (by omega) (by omega)
  have ron : rngOk 0 (n : Int) := rngOk_of (by omega) (by omega) (by omega) (by omega)
  have e0 : [PyData.tuple []] = ([[]] : List (List Nat)).map eT := rfl
  simp only [b__law_short_texts, mVar, mK, mBin, mUn, mTru, mTest, mAnd, mOr, mNot, mAndV, mOrV, mNotV, mIf, mNil, mCons, mTup, mLst, mLstF, mCall, mChain, mIsi, fIsi, tyD, tyP, mSlice, oNo, oSome, mSeq, srcOf, mRange1, mRange2, sNext, sSeq, sIf, sRet, sRetN, sExpr, sSet, sAsg, sAug, sFor, sRaise, gSet, gMore, gNone, Mp.gTup, mMeth, fAppend, mEnum, srcEnum, mDNew, fLen, fInt, truth, ptruth, asB, pp1, pp2, ret1, dIs, isN, allP, frzD, mFrz, List.map_cons, List.map_nil, List.cons_append, List.nil_append, List.length_cons, List.length_nil, List.getElem?_cons_zero, List.getElem?_cons_succ, List.getElem?_nil, List.set_cons_zero, List.set_cons_succ, if_true, ite_true, Nat.reduceAdd, Nat.reduceSub, List.replicate, Bool.false_eq_true, if_false, Bool.not_true, Bool.not_false, mp_ft, mp_tf, isTy, beq_self_eq_true, isi0, isi1, isi2, isi3, isi4, isi5, isi6, isi7, isi8, isi9, isi10, isi11, isi12, isi13, isi14, isi15, isi16, isi17, isi18, isi19, isi20, isi21, isi22, isi23, isi24, isi25, isi26, isi27, isi28, isi29, isi30, isi31, isi32, isi33, isi34, isi35, isi36, isi37, isi38, isi39, isi40, isi41, onlyF, dIx_tup, dIx_lst, dIx_ref, ixAt_0, ixAt_1, ixAt_2, ixAt_3, iEq_int, iNe_int, dAdd, iAdd, iSub, iNeg, iCmp, iLe, iLt, iGe, iGt, dMul, iMulT, iMul, iMod, iDiv, gIx, setIx, decide_true, decide_false, decide_eq_true_eq, Bool.not_eq_true, List.length_map, gets_ok, gets_bind, gets_ite, rsw_ite, rsw_seq, rsw_thn, rsw_nx, rsw_ret, rst_x, rsx_seq, rsx_nx, rsx_ret, rsx_brk, rsx_cont, rsx_ite, rsx_thn, gets_fnM, onlyP, Option.map_some, Src.items, z0, z1, ro8, rng0, Int.toNat_natCast, e0]
  refine for_gets (J := fun xs e s' => ∃ (k : Nat) (A L : List (List Nat)) (e4 e5 e6 e7 : Option D), xs = ((List.range 8).drop k).map (fun q => D.p (eN q)) ∧ k ≤ 8 ∧ (∀ t ∈ A, TxOk n t ∧ t.length ≤ k) ∧ (∀ t ∈ L, TxOk n t ∧ t.length ≤ k) ∧ A.length ≤ 200 ∧ L.length ≤ 1 + 200 * k ∧ s' = ⟨[], s.w⟩ ∧
    e = [some (.p (.int (n : Int))), some (.p (.int cc)), some (.p (.list (A.map eT))), some (.p (.list (L.map eT))), e4, e5, e6, e7]) (fun _ _ _ _ => trivial) ?_ ?_ _ _ _ ⟨0, [[]], [[]], none, none, none, none, by simp, by omega, by simp [TxOk], by simp [TxOk], by simp, by simp, rfl, rfl⟩
  · rintro x xs e s' ⟨k, A, L, e4, e5, e6, e7, hx, hk, hA, hL, hAl, hLl, rfl, rfl⟩
    by_cases hkl : k < 8
    rotate_left
    · rw [List.drop_of_length_le (by simpa using hkl)] at hx
      cases hx
    · rw [List.drop_eq_getElem_cons (by simpa using hkl)] at hx
      simp only [List.map_cons, List.getElem_range] at hx
      obtain ⟨rfl, rfl⟩ := List.cons.inj hx
      have hmul : mulOk (A.length : Int) (n : Int) = true := mul_nl (by omega)
      simp only [mVar, mK, mBin, mUn, mTru, mTest, mAnd, mOr, mNot, mAndV, mOrV, mNotV, mIf, mNil, mCons, mTup, mLst, mLstF, mCall, mChain, mIsi, fIsi, tyD, tyP, mSlice, oNo, oSome, mSeq, srcOf, mRange1, mRange2, sNext, sSeq, sIf, sRet, sRetN, sExpr, sSet, sAsg, sAug, sFor, sRaise, gSet, gMore, gNone, Mp.gTup, mMeth, fAppend, mEnum, srcEnum, mDNew, fLen, fInt, truth, ptruth, asB, pp1, pp2, ret1, dIs, isN, allP, frzD, mFrz, List.map_cons, List.map_nil, List.cons_append, List.nil_append, List.length_cons, List.length_nil, List.getElem?_cons_zero, List.getElem?_cons_succ, List.getElem?_nil, List.set_cons_zero, List.set_cons_succ, if_true, ite_true, Nat.reduceAdd, Nat.reduceSub, List.replicate, Bool.false_eq_true, if_false, Bool.not_true, Bool.not_false, mp_ft, mp_tf, isTy, beq_self_eq_true, isi0, isi1, isi2, isi3, isi4, isi5, isi6, isi7, isi8, isi9, isi10, isi11, isi12, isi13, isi14, isi15, isi16, isi17, isi18, isi19, isi20, isi21, isi22, isi23, isi24, isi25, isi26, isi27, isi28, isi29, isi30, isi31, isi32, isi33, isi34, isi35, isi36, isi37, isi38, isi39, isi40, isi41, onlyF, dIx_tup, dIx_lst, dIx_ref, ixAt_0, ixAt_1, ixAt_2, ixAt_3, iEq_int, iNe_int, dAdd, iAdd, iSub, iNeg, iCmp, iLe, iLt, iGe, iGt, dMul, iMulT, iMul, iMod, iDiv, gIx, setIx, decide_true, decide_false, decide_eq_true_eq, Bool.not_eq_true, List.length_map, gets_ok, gets_bind, gets_ite, rsw_ite, rsw_seq, rsw_thn, rsw_nx, rsw_ret, rst_x, rsx_seq, rsx_nx, rsx_ret, rsx_brk, rsx_cont, rsx_ite, rsx_thn, gets_fnM, onlyP, Option.map_some, Src.items, hmul]
      have fin : ∀ (B : List (List Nat)) (e4 e5 e6 e7 : Option D), (∀ t ∈ B, TxOk n t ∧ t.length ≤ k + 1) → B.length ≤ 200 → ∃ (k' : Nat) (A' L' : List (List Nat)) (e4' e5' e6' e7' : Option D), ((List.range 8).drop (k + 1)).map (fun q => D.p (eN q)) = ((List.range 8).drop k').map (fun q => D.p (eN q)) ∧ k' ≤ 8 ∧ (∀ t ∈ A', TxOk n t ∧ t.length ≤ k') ∧ (∀ t ∈ L', TxOk n t ∧ t.length ≤ k') ∧ A'.length ≤ 200 ∧ L'.length ≤ 1 + 200 * k' ∧ True ∧
          [some (D.p (.int (n : Int))), some (.p (.int cc)), some (.p (.list (B.map eT))), some (.p (.list (L.map eT ++ B.map eT))), e4, e5, e6, e7] = [some (.p (.int (n : Int))), some (.p (.int cc)), some (.p (.list (A'.map eT))), some (.p (.list (L'.map eT))), e4', e5', e6', e7'] := by
        intro B e4 e5 e6 e7 hB hBl
        refine ⟨k + 1, B, L ++ B, e4, e5, e6, e7, rfl, hkl, hB, fun t ht => ?_, hBl, by rw [List.length_append]; omega, trivial, by rw [List.map_append]⟩
        rcases List.mem_append.mp ht with h | h
        · exact ⟨(hL t h).1, by have := (hL t h).2; omega⟩
        · exact hB t h
      by_cases hle : (A.length : Int) * (n : Int) ≤ cc
      · have hle' : A.length * n ≤ 200 := by
          have : ((A.length * n : Nat) : Int) ≤ 200 := by rw [Int.natCast_mul, hc]; exact hle
          omega
        simp only [hle, mVar, mK, mBin, mUn, mTru, mTest, mAnd, mOr, mNot, mAndV, mOrV, mNotV, mIf, mNil, mCons, mTup, mLst, mLstF, mCall, mChain, mIsi, fIsi, tyD, tyP, mSlice, oNo, oSome, mSeq, srcOf, mRange1, mRange2, sNext, sSeq, sIf, sRet, sRetN, sExpr, sSet, sAsg, sAug, sFor, sRaise, gSet, gMore, gNone, Mp.gTup, mMeth, fAppend, mEnum, srcEnum, mDNew, fLen, fInt, truth, ptruth, asB, pp1, pp2, ret1, dIs, isN, allP, frzD, mFrz, List.map_cons, List.map_nil, List.cons_append, List.nil_append, List.length_cons, List.length_nil, List.getElem?_cons_zero, List.getElem?_cons_succ, List.getElem?_nil, List.set_cons_zero, List.set_cons_succ, if_true, ite_true, Nat.reduceAdd, Nat.reduceSub, List.replicate, Bool.false_eq_true, if_false, Bool.not_true, Bool.not_false, mp_ft, mp_tf, isTy, beq_self_eq_true, isi0, isi1, isi2, isi3, isi4, isi5, isi6, isi7, isi8, isi9, isi10, isi11, isi12, isi13, isi14, isi15, isi16, isi17, isi18, isi19, isi20, isi21, isi22, isi23, isi24, isi25, isi26, isi27, isi28, isi29, isi30, isi31, isi32, isi33, isi34, isi35, isi36, isi37, isi38, isi39, isi40, isi41, onlyF, dIx_tup, dIx_lst, dIx_ref, ixAt_0, ixAt_1, ixAt_2, ixAt_3, iEq_int, iNe_int, dAdd, iAdd, iSub, iNeg, iCmp, iLe, iLt, iGe, iGt, dMul, iMulT, iMul, iMod, iDiv, gIx, setIx, decide_true, decide_false, decide_eq_true_eq, Bool.not_eq_true, List.length_map, gets_ok, gets_bind, gets_ite, rsw_ite, rsw_seq, rsw_thn, rsw_nx, rsw_ret, rst_x, rsx_seq, rsx_nx, rsx_ret, rsx_brk, rsx_cont, rsx_ite, rsx_thn, gets_fnM, onlyP, Option.map_some, Src.items, z0]
        refine rsx_of (for_gets (J := fun xs e s' => ∃ (r1 r2 : List (List Nat)) (B : List (List Nat)) (e6 e7 : Option D), xs = r1.map (fun t => D.p (eT t)) ∧ r2 ++ r1 = A ∧ B.length = r2.length * n ∧ (∀ t ∈ B, TxOk n t ∧ t.length ≤ k + 1) ∧ s' = ⟨[], s.w⟩ ∧
          e = [some (.p (.int (n : Int))), some (.p (.int cc)), some (.p (.list (A.map eT))), some (.p (.list (L.map eT))), some (.p (eN k)), some (.p (.list (B.map eT))), e6, e7]) (fun _ _ _ _ => trivial) ?_ ?_ _ _ _ ⟨A, [], [], e6, e7, map_map, rfl, by simp, by simp, rfl, rfl⟩)
        · rintro x xs e s' ⟨r1, r2, B, e6, e7, hx, hr, hBl, hB, rfl, rfl⟩
          cases r1 with
          | nil => cases hx
          | cons t r1 =>
            cases hx
            have htA : t ∈ A := by rw [← hr]; simp
            have hl2 : (r2.length + 1) * n ≤ 200 := by
              have h := congrArg List.length hr
              simp only [List.length_append, List.length_cons] at h
              exact Nat.le_trans (Nat.mul_le_mul_right n (by omega)) hle'
            have zt : Mp.sizeOk ((t.map eN).length + 1) = true := sizeOk_of (by have := (hA t htA).2; simp; omega)
            have zn : Mp.sizeOk n = true := sizeOk_of (by omega)
            have hrows : B.length + n ≤ 200 := by
              rw [hBl]
              rw [Nat.succ_mul] at hl2
              exact hl2
            have zc : Mp.sizeOk (B.length + n) = true := sizeOk_of (by omega)
            simp only [List.length_map] at zt
            simp only [mVar, mK, mBin, mUn, mTru, mTest, mAnd, mOr, mNot, mAndV, mOrV, mNotV, mIf, mNil, mCons, mTup, mLst, mLstF, mCall, mChain, mIsi, fIsi, tyD, tyP, mSlice, oNo, oSome, mSeq, srcOf, mRange1, mRange2, sNext, sSeq, sIf, sRet, sRetN, sExpr, sSet, sAsg, sAug, sFor, sRaise, gSet, gMore, gNone, Mp.gTup, mMeth, fAppend, mEnum, srcEnum, mDNew, fLen, fInt, truth, ptruth, asB, pp1, pp2, ret1, dIs, isN, allP, frzD, mFrz, List.map_cons, List.map_nil, List.cons_append, List.nil_append, List.length_cons, List.length_nil, List.getElem?_cons_zero, List.getElem?_cons_succ, List.getElem?_nil, List.set_cons_zero, List.set_cons_succ, if_true, ite_true, Nat.reduceAdd, Nat.reduceSub, List.replicate, Bool.false_eq_true, if_false, Bool.not_true, Bool.not_false, mp_ft, mp_tf, isTy, beq_self_eq_true, isi0, isi1, isi2, isi3, isi4, isi5, isi6, isi7, isi8, isi9, isi10, isi11, isi12, isi13, isi14, isi15, isi16, isi17, isi18, isi19, isi20, isi21, isi22, isi23, isi24, isi25, isi26, isi27, isi28, isi29, isi30, isi31, isi32, isi33, isi34, isi35, isi36, isi37, isi38, isi39, isi40, isi41, onlyF, dIx_tup, dIx_lst, dIx_ref, ixAt_0, ixAt_1, ixAt_2, ixAt_3, iEq_int, iNe_int, dAdd, iAdd, iSub, iNeg, iCmp, iLe, iLt, iGe, iGt, dMul, iMulT, iMul, iMod, iDiv, gIx, setIx, decide_true, decide_false, decide_eq_true_eq, Bool.not_eq_true, List.length_map, gets_ok, gets_bind, gets_ite, rsw_ite, rsw_seq, rsw_thn, rsw_nx, rsw_ret, rst_x, rsx_seq, rsx_nx, rsx_ret, rsx_brk, rsx_cont, rsx_ite, rsx_thn, gets_fnM, onlyP, Option.map_some, Src.items, mLc, ron, rng0, Int.toNat_natCast, List.length_range, zn, wipeE]
            rw [lc_map (f := fun c : Nat => D.p (eT (t ++ [c]))) trivial (fun c _ => by simp only [eT, pureRun, onlyP, fnM, mVar, mK, mBin, mUn, mTru, mTest, mAnd, mOr, mNot, mAndV, mOrV, mNotV, mIf, mNil, mCons, mTup, mLst, mLstF, mCall, mChain, mIsi, fIsi, tyD, tyP, mSlice, oNo, oSome, mSeq, srcOf, mRange1, mRange2, sNext, sSeq, sIf, sRet, sRetN, sExpr, sSet, sAsg, sAug, sFor, sRaise, gSet, gMore, gNone, Mp.gTup, mMeth, fAppend, mEnum, srcEnum, mDNew, fLen, fInt, truth, ptruth, asB, pp1, pp2, ret1, dIs, isN, allP, frzD, mFrz, Mp.R.bind, R.thn, RS.seq, List.map_cons, List.map_nil, List.cons_append, List.nil_append, List.length_cons, List.length_nil, List.getElem?_cons_zero, List.getElem?_cons_succ, List.getElem?_nil, List.set_cons_zero, List.set_cons_succ, if_true, ite_true, Nat.reduceAdd, Nat.reduceSub, List.replicate, Bool.false_eq_true, if_false, Bool.not_true, Bool.not_false, mp_ft, mp_tf, isTy, beq_self_eq_true, isi0, isi1, isi2, isi3, isi4, isi5, isi6, isi7, isi8, isi9, isi10, isi11, isi12, isi13, isi14, isi15, isi16, isi17, isi18, isi19, isi20, isi21, isi22, isi23, isi24, isi25, isi26, isi27, isi28, isi29, isi30, isi31, isi32, isi33, isi34, isi35, isi36, isi37, isi38, isi39, isi40, isi41, onlyF, dIx_tup, dIx_lst, dIx_ref, ixAt_0, ixAt_1, ixAt_2, ixAt_3, iEq_int, iNe_int, dAdd, iAdd, iSub, iNeg, iCmp, iLe, iLt, iGe, iGt, dMul, iMulT, iMul, iMod, iDiv, gIx, setIx, decide_true, decide_false, decide_eq_true_eq, Bool.not_eq_true, List.length_map, z1, zt, List.map_append, Option.map_some])]
            simp only [mVar, mK, mBin, mUn, mTru, mTest, mAnd, mOr, mNot, mAndV, mOrV, mNotV, mIf, mNil, mCons, mTup, mLst, mLstF, mCall, mChain, mIsi, fIsi, tyD, tyP, mSlice, oNo, oSome, mSeq, srcOf, mRange1, mRange2, sNext, sSeq, sIf, sRet, sRetN, sExpr, sSet, sAsg, sAug, sFor, sRaise, gSet, gMore, gNone, Mp.gTup, mMeth, fAppend, mEnum, srcEnum, mDNew, fLen, fInt, truth, ptruth, asB, pp1, pp2, ret1, dIs, isN, allP, frzD, mFrz, List.map_cons, List.map_nil, List.cons_append, List.nil_append, List.length_cons, List.length_nil, List.getElem?_cons_zero, List.getElem?_cons_succ, List.getElem?_nil, List.set_cons_zero, List.set_cons_succ, if_true, ite_true, Nat.reduceAdd, Nat.reduceSub, List.replicate, Bool.false_eq_true, if_false, Bool.not_true, Bool.not_false, mp_ft, mp_tf, isTy, beq_self_eq_true, isi0, isi1, isi2, isi3, isi4, isi5, isi6, isi7, isi8, isi9, isi10, isi11, isi12, isi13, isi14, isi15, isi16, isi17, isi18, isi19, isi20, isi21, isi22, isi23, isi24, isi25, isi26, isi27, isi28, isi29, isi30, isi31, isi32, isi33, isi34, isi35, isi36, isi37, isi38, isi39, isi40, isi41, onlyF, dIx_tup, dIx_lst, dIx_ref, ixAt_0, ixAt_1, ixAt_2, ixAt_3, iEq_int, iNe_int, dAdd, iAdd, iSub, iNeg, iCmp, iLe, iLt, iGe, iGt, dMul, iMulT, iMul, iMod, iDiv, gIx, setIx, decide_true, decide_false, decide_eq_true_eq, Bool.not_eq_true, List.length_map, gets_ok, gets_bind, gets_ite, rsw_ite, rsw_seq, rsw_thn, rsw_nx, rsw_ret, rst_x, rsx_seq, rsx_nx, rsx_ret, rsx_brk, rsx_cont, rsx_ite, rsx_thn, gets_fnM, onlyP, Option.map_some, Src.items, kFrz, allP_map, dCatF, lstP, List.length_range, zc]
            refine ⟨r1, r2 ++ [t], B ++ (List.range n).map fun c => t ++ [c], some (.p (eT t)), e7, rfl, by simpa using hr, ?_, ?_, trivial, ?_⟩
            · rw [List.length_append, List.length_map, List.length_range, hBl, List.length_append, List.length_singleton, Nat.succ_mul]
            · intro u hu
              rcases List.mem_append.mp hu with h | h
              · exact hB u h
              · obtain ⟨c, hc, rfl⟩ := List.mem_map.mp h
                obtain ⟨h1, h2⟩ := hA t htA
                refine ⟨fun y hy => ?_, by rw [List.length_append, List.length_singleton]; omega⟩
                rcases List.mem_append.mp hy with h | h
                · exact h1 y h
                · rw [List.mem_singleton.mp h]; exact List.mem_range.mp hc
            · simp [Function.comp_def]
        · rintro e s' ⟨r1, r2, B, e6, e7, hx, hr, hBl, hB, rfl, rfl⟩
          cases r1 with
          | cons c t1 => cases hx
          | nil =>
            rw [List.append_nil] at hr
            subst hr
            have hB2 : B.length ≤ 200 := by rw [hBl]; exact hle'
            have zc : Mp.sizeOk (L.length + B.length) = true := sizeOk_of (by omega)
            simp only [mVar, mK, mBin, mUn, mTru, mTest, mAnd, mOr, mNot, mAndV, mOrV, mNotV, mIf, mNil, mCons, mTup, mLst, mLstF, mCall, mChain, mIsi, fIsi, tyD, tyP, mSlice, oNo, oSome, mSeq, srcOf, mRange1, mRange2, sNext, sSeq, sIf, sRet, sRetN, sExpr, sSet, sAsg, sAug, sFor, sRaise, gSet, gMore, gNone, Mp.gTup, mMeth, fAppend, mEnum, srcEnum, mDNew, fLen, fInt, truth, ptruth, asB, pp1, pp2, ret1, dIs, isN, allP, frzD, mFrz, List.map_cons, List.map_nil, List.cons_append, List.nil_append, List.length_cons, List.length_nil, List.getElem?_cons_zero, List.getElem?_cons_succ, List.getElem?_nil, List.set_cons_zero, List.set_cons_succ, if_true, ite_true, Nat.reduceAdd, Nat.reduceSub, List.replicate, Bool.false_eq_true, if_false, Bool.not_true, Bool.not_false, mp_ft, mp_tf, isTy, beq_self_eq_true, isi0, isi1, isi2, isi3, isi4, isi5, isi6, isi7, isi8, isi9, isi10, isi11, isi12, isi13, isi14, isi15, isi16, isi17, isi18, isi19, isi20, isi21, isi22, isi23, isi24, isi25, isi26, isi27, isi28, isi29, isi30, isi31, isi32, isi33, isi34, isi35, isi36, isi37, isi38, isi39, isi40, isi41, onlyF, dIx_tup, dIx_lst, dIx_ref, ixAt_0, ixAt_1, ixAt_2, ixAt_3, iEq_int, iNe_int, dAdd, iAdd, iSub, iNeg, iCmp, iLe, iLt, iGe, iGt, dMul, iMulT, iMul, iMod, iDiv, gIx, setIx, decide_true, decide_false, decide_eq_true_eq, Bool.not_eq_true, List.length_map, gets_ok, gets_bind, gets_ite, rsw_ite, rsw_seq, rsw_thn, rsw_nx, rsw_ret, rst_x, rsx_seq, rsx_nx, rsx_ret, rsx_brk, rsx_cont, rsx_ite, rsx_thn, gets_fnM, onlyP, Option.map_some, Src.items, dCatF, lstP, zc]
            exact fin B _ _ _ _ hB hB2
      · have zc : Mp.sizeOk (L.length + 0) = true := sizeOk_of (by omega)
        simp only [hle, mVar, mK, mBin, mUn, mTru, mTest, mAnd, mOr, mNot, mAndV, mOrV, mNotV, mIf, mNil, mCons, mTup, mLst, mLstF, mCall, mChain, mIsi, fIsi, tyD, tyP, mSlice, oNo, oSome, mSeq, srcOf, mRange1, mRange2, sNext, sSeq, sIf, sRet, sRetN, sExpr, sSet, sAsg, sAug, sFor, sRaise, gSet, gMore, gNone, Mp.gTup, mMeth, fAppend, mEnum, srcEnum, mDNew, fLen, fInt, truth, ptruth, asB, pp1, pp2, ret1, dIs, isN, allP, frzD, mFrz, List.map_cons, List.map_nil, List.cons_append, List.nil_append, List.length_cons, List.length_nil, List.getElem?_cons_zero, List.getElem?_cons_succ, List.getElem?_nil, List.set_cons_zero, List.set_cons_succ, if_true, ite_true, Nat.reduceAdd, Nat.reduceSub, List.replicate, Bool.false_eq_true, if_false, Bool.not_true, Bool.not_false, mp_ft, mp_tf, isTy, beq_self_eq_true, isi0, isi1, isi2, isi3, isi4, isi5, isi6, isi7, isi8, isi9, isi10, isi11, isi12, isi13, isi14, isi15, isi16, isi17, isi18, isi19, isi20, isi21, isi22, isi23, isi24, isi25, isi26, isi27, isi28, isi29, isi30, isi31, isi32, isi33, isi34, isi35, isi36, isi37, isi38, isi39, isi40, isi41, onlyF, dIx_tup, dIx_lst, dIx_ref, ixAt_0, ixAt_1, ixAt_2, ixAt_3, iEq_int, iNe_int, dAdd, iAdd, iSub, iNeg, iCmp, iLe, iLt, iGe, iGt, dMul, iMulT, iMul, iMod, iDiv, gIx, setIx, decide_true, decide_false, decide_eq_true_eq, Bool.not_eq_true, List.length_map, gets_ok, gets_bind, gets_ite, rsw_ite, rsw_seq, rsw_thn, rsw_nx, rsw_ret, rst_x, rsx_seq, rsx_nx, rsx_ret, rsx_brk, rsx_cont, rsx_ite, rsx_thn, gets_fnM, onlyP, Option.map_some, Src.items, z0, dCatF, lstP, List.length_map, zc]
        have f := fin [] (some (.p (eN k))) (some (.p (.list []))) e6 e7 (by simp) (by simp)
        simp only [List.map_nil] at f
        exact f
  · rintro e s' ⟨k, A, L, e4, e5, e6, e7, hx, hk, hA, hL, hAl, hLl, rfl, rfl⟩
    simp only [mVar, mK, mBin, mUn, mTru, mTest, mAnd, mOr, mNot, mAndV, mOrV, mNotV, mIf, mNil, mCons, mTup, mLst, mLstF, mCall, mChain, mIsi, fIsi, tyD, tyP, mSlice, oNo, oSome, mSeq, srcOf, mRange1, mRange2, sNext, sSeq, sIf, sRet, sRetN, sExpr, sSet, sAsg, sAug, sFor, sRaise, gSet, gMore, gNone, Mp.gTup, mMeth, fAppend, mEnum, srcEnum, mDNew, fLen, fInt, truth, ptruth, asB, pp1, pp2, ret1, dIs, isN, allP, frzD, mFrz, List.map_cons, List.map_nil, List.cons_append, List.nil_append, List.length_cons, List.length_nil, List.getElem?_cons_zero, List.getElem?_cons_succ, List.getElem?_nil, List.set_cons_zero, List.set_cons_succ, if_true, ite_true, Nat.reduceAdd, Nat.reduceSub, List.replicate, Bool.false_eq_true, if_false, Bool.not_true, Bool.not_false, mp_ft, mp_tf, isTy, beq_self_eq_true, isi0, isi1, isi2, isi3, isi4, isi5, isi6, isi7, isi8, isi9, isi10, isi11, isi12, isi13, isi14, isi15, isi16, isi17, isi18, isi19, isi20, isi21, isi22, isi23, isi24, isi25, isi26, isi27, isi28, isi29, isi30, isi31, isi32, isi33, isi34, isi35, isi36, isi37, isi38, isi39, isi40, isi41, onlyF, dIx_tup, dIx_lst, dIx_ref, ixAt_0, ixAt_1, ixAt_2, ixAt_3, iEq_int, iNe_int, dAdd, iAdd, iSub, iNeg, iCmp, iLe, iLt, iGe, iGt, dMul, iMulT, iMul, iMod, iDiv, gIx, setIx, decide_true, decide_false, decide_eq_true_eq, Bool.not_eq_true, List.length_map, gets_ok, gets_bind, gets_ite, rsw_ite, rsw_seq, rsw_thn, rsw_nx, rsw_ret, rst_x, rsx_seq, rsx_nx, rsx_ret, rsx_brk, rsx_cont, rsx_ite, rsx_thn, gets_fnM, onlyP, Option.map_some, Src.items]
    exact ⟨trivial, _, rfl, L, rfl, fun t ht => ⟨(hL t ht).1, by have := (hL t ht).2; omega⟩, by omega⟩

/-! _law_numbers -/
theorem sc__law_numbers : FnScope ["_law_well_here", "_law_states", "_law_more_here", "_law_places", "_law_k", "_law_numbers_here", "_law_state", "_law_place"] ["_law_well_here", "_law_states", "_law_more_here"] (defScope t__law_numbers) := ⟨rfl, rfl, rfl, by decide +kernel, rfl, by decide +kernel, by decide +kernel⟩
theorem bn__law_numbers : BindN "_law_numbers" t__law_numbers ["_law_well_here", "_law_states", "_law_more_here"] := fun _ _ _ _ _ _ us hl => match us, hl with | [_, _, _], _ => rfl
noncomputable def b__law_numbers : MS := (sSeq (sSet 3 (mCall fSortedF (mCons (mLc (mRange1 (mVar 2)) [4] (gSet 4) mYes (mBin dAdd (mK (.int 1)) (mCall M__law_draw (mCons (mVar 0) (mCons (mVar 1) mNil)))) kFrz) mNil))) (sSeq (sSet 5 (mLst mNil)) (sSeq (sFor (mRange1 (mVar 1)) (gSet 6) (sExpr (mMeth "list" fAppend (mVar 5) (mCons (mBin dAdd (mVar 6) (mCall fLen (mCons (mLc (mSeq (mVar 3)) [7] (gSet 7) (mTest (mBin (pp2 iLe) (mVar 7) (mVar 6))) (mVar 7) kFrz) mNil))) mNil)))) (sRet (mFrz (mVar 5))))))
theorem raw__law_numbers (N : Nm K mg) : DefOk P w K mg base "_law_numbers" 4 3 (fnM 3 8 b__law_numbers) := def_mk N.d__law_numbers sc__law_numbers bn__law_numbers rfl rfl fun f cdv A outer s H E hr nd tk hp => (ss_cons (s_set (i := 3) nd (e_sortedF rfl rfl N.f_sorted (a_cons (e_lcF (own := [("_law_k", 4)]) rfl nd (i_range1 rfl N.f_range (e_var (i := 2))) (blkOk_by (N := ["_law_well_here", "_law_states", "_law_more_here", "_law_places", "_law_k", "_law_numbers_here", "_law_state", "_law_place"]) (sc := defScope t__law_numbers) (own := [("_law_k", 4)]) (by decide +kernel)) (tg_name (i := 4) (by decide)) (fun _ _ _ _ _ => pg_name (i := 4) nd rfl (by first | exact Or.inl rfl | exact Or.inr rfl)) (fun _ _ _ _ _ => c_no) (fun _ _ _ _ _ => (e_bin o_add e_int (e_callS (ok__law_draw N) hr (by decide) takes0 (a_cons (e_var (i := 0)) (a_cons (e_var (i := 1)) a_nil)) (argN_cons (argN_cons argN_nil)))))) a_nil))) (ss_cons (s_set (i := 5) nd (e_lst a_nil)) (ss_cons (s_for hp rfl (i_range1 rfl N.f_range (e_var (i := 1))) (g_name (i := 6) nd) (ss_one (s_expr (e_append (e_var (i := 5)) (a_cons (e_bin o_add (e_var (i := 6)) (e_bi b_len rfl N.f_len bt_len (a_cons (e_lcF (own := [("_law_place", 7)]) rfl nd (i_seq (e_var (i := 3))) (blkOk_by (N := ["_law_well_here", "_law_states", "_law_more_here", "_law_places", "_law_k", "_law_numbers_here", "_law_state", "_law_place"]) (sc := defScope t__law_numbers) (own := [("_law_place", 7)]) (by decide +kernel)) (tg_name (i := 7) (by decide)) (fun _ _ _ _ _ => pg_name (i := 7) nd rfl (by first | exact Or.inl rfl | exact Or.inr rfl)) (fun _ _ _ _ _ => (c_if (t_cmp o_leP (e_var (i := 7)) (e_var (i := 6)) (nomark _)))) (fun _ _ _ _ _ => (e_var (i := 7)))) a_nil))) a_nil))))) (ss_one (s_ret (e_frz (e_var (i := 5))))))))
theorem Mx__law_numbers : ∃ f : List D → S → R D, f = pureRun (fnM 3 8 b__law_numbers) := ⟨_, rfl⟩
noncomputable def M__law_numbers : List D → S → R D := Classical.choose Mx__law_numbers
theorem Me__law_numbers : M__law_numbers = pureRun (fnM 3 8 b__law_numbers) := Classical.choose_spec Mx__law_numbers
theorem ok__law_numbers (N : Nm K mg) : DefOk P w K mg base "_law_numbers" 4 3 M__law_numbers := by rw [Me__law_numbers]; exact (raw__law_numbers N).alone
def numF (ms : List Nat) (i : Nat) : Nat := i + (ms.filter fun p => decide (p ≤ i)).length
theorem numF_mono {ms : List Nat} {i j : Nat} (h : i < j) : numF ms i < numF ms j := by
  have : (ms.filter fun p => decide (p ≤ i)).length ≤ (ms.filter fun p => decide (p ≤ j)).length := by
    induction ms with
    | nil => exact Nat.le_refl _
    | cons p ms ih =>
      by_cases h1 : p ≤ i
      · have h2 : p ≤ j := by omega
        simp only [List.filter_cons, h1, h2, decide_true, if_true, List.length_cons]
        omega
      · by_cases h2 : p ≤ j
        · simp only [List.filter_cons, h1, h2, decide_true, decide_false, if_true, List.length_cons, Bool.false_eq_true, if_false]
          omega
        · simp only [List.filter_cons, h1, h2, decide_false, Bool.false_eq_true, if_false]
          omega
  unfold numF
  omega
theorem numF_zero {ms : List Nat} (h : ∀ p ∈ ms, 1 ≤ p) : numF ms 0 = 0 := by
  have : (ms.filter fun p => decide (p ≤ 0)) = [] := List.filter_eq_nil_iff.mpr fun p hp => by have := h p hp; simp; omega
  unfold numF
  rw [this]
  rfl
theorem numF_le {ms : List Nat} {i : Nat} : numF ms i ≤ i + ms.length := by
  have := List.length_filter_le (fun p => decide (p ≤ i)) ms
  unfold numF
  omega
theorem numbers_w {g w : GH} {q k : Nat} {Q : D → S → Prop} (hq : 1 ≤ q) (hq2 : q ≤ 100) (hk : k ≤ 100) (hw : WA w) (h : ∀ ms w', ms.length = k → (∀ p ∈ ms, 1 ≤ p) → WA w' → Q (.p (.list (((List.range q).map (numF ms)).map eN))) ⟨g, w'⟩) : Gets (M__law_numbers [.well 0, .p (.int (q : Int)), .p (.int (k : Int))] ⟨g, w⟩) Q := by
  rw [Me__law_numbers]; refine pure_gets rfl ?_
  have z0 : Mp.sizeOk 0 = true := by decide
  have rk : rngOk 0 (k : Int) := rngOk_of (by omega) (by omega) (by omega) (by omega)
  have rq : rngOk 0 (q : Int) := rngOk_of (by omega) (by omega) (by omega) (by omega)
  have zn : Mp.sizeOk (rngItems 0 (k : Int).toNat).length = true := by rw [rng_len]; exact sizeOk_of (by omega)
  simp only [b__law_numbers, mVar, mK, mBin, mUn, mTru, mTest, mAnd, mOr, mNot, mAndV, mOrV, mNotV, mIf, mNil, mCons, mTup, mLst, mLstF, mCall, mChain, mIsi, fIsi, tyD, tyP, mSlice, oNo, oSome, mSeq, srcOf, mRange1, mRange2, sNext, sSeq, sIf, sRet, sRetN, sExpr, sSet, sAsg, sAug, sFor, sRaise, gSet, gMore, gNone, Mp.gTup, mMeth, fAppend, mEnum, srcEnum, mDNew, fLen, fInt, truth, ptruth, asB, pp1, pp2, ret1, dIs, isN, allP, frzD, mFrz, List.map_cons, List.map_nil, List.cons_append, List.nil_append, List.length_cons, List.length_nil, List.getElem?_cons_zero, List.getElem?_cons_succ, List.getElem?_nil, List.set_cons_zero, List.set_cons_succ, if_true, ite_true, Nat.reduceAdd, Nat.reduceSub, List.replicate, Bool.false_eq_true, if_false, Bool.not_true, Bool.not_false, mp_ft, mp_tf, isTy, beq_self_eq_true, isi0, isi1, isi2, isi3, isi4, isi5, isi6, isi7, isi8, isi9, isi10, isi11, isi12, isi13, isi14, isi15, isi16, isi17, isi18, isi19, isi20, isi21, isi22, isi23, isi24, isi25, isi26, isi27, isi28, isi29, isi30, isi31, isi32, isi33, isi34, isi35, isi36, isi37, isi38, isi39, isi40, isi41, onlyF, dIx_tup, dIx_lst, dIx_ref, ixAt_0, ixAt_1, ixAt_2, ixAt_3, iEq_int, iNe_int, dAdd, iAdd, iSub, iNeg, iCmp, iLe, iLt, iGe, iGt, dMul, iMulT, iMul, iMod, iDiv, gIx, setIx, decide_true, decide_false, decide_eq_true_eq, Bool.not_eq_true, List.length_map, gets_ok, gets_bind, gets_ite, rsw_ite, rsw_seq, rsw_thn, rsw_nx, rsw_ret, rst_x, rsx_seq, rsx_nx, rsx_ret, rsx_brk, rsx_cont, rsx_ite, rsx_thn, gets_fnM, onlyP, Option.map_some, Src.items, mLc, rk, zn, wipeE]
  refine lc_typed (I := fun s => s.g = [] ∧ WA s.w) (P := fun c : Nat => 1 ≤ c) (f := fun c => .int (c : Int)) (fun _ _ => trivial) ?_ ⟨rfl, hw⟩ ?_
  · rintro x hx ⟨g', w'⟩ ⟨rfl, hw'⟩
    simp only [mVar, mK, mBin, mUn, mTru, mTest, mAnd, mOr, mNot, mAndV, mOrV, mNotV, mIf, mNil, mCons, mTup, mLst, mLstF, mCall, mChain, mIsi, fIsi, tyD, tyP, mSlice, oNo, oSome, mSeq, srcOf, mRange1, mRange2, sNext, sSeq, sIf, sRet, sRetN, sExpr, sSet, sAsg, sAug, sFor, sRaise, gSet, gMore, gNone, Mp.gTup, mMeth, fAppend, mEnum, srcEnum, mDNew, fLen, fInt, truth, ptruth, asB, pp1, pp2, ret1, dIs, isN, allP, frzD, mFrz, List.map_cons, List.map_nil, List.cons_append, List.nil_append, List.length_cons, List.length_nil, List.getElem?_cons_zero, List.getElem?_cons_succ, List.getElem?_nil, List.set_cons_zero, List.set_cons_succ, if_true, ite_true, Nat.reduceAdd, Nat.reduceSub, List.replicate, Bool.false_eq_true, if_false, Bool.not_true, Bool.not_false, mp_ft, mp_tf, isTy, beq_self_eq_true, isi0, isi1, isi2, isi3, isi4, isi5, isi6, isi7, isi8, isi9, isi10, isi11, isi12, isi13, isi14, isi15, isi16, isi17, isi18, isi19, isi20, isi21, isi22, isi23, isi24, isi25, isi26, isi27, isi28, isi29, isi30, isi31, isi32, isi33, isi34, isi35, isi36, isi37, isi38, isi39, isi40, isi41, onlyF, dIx_tup, dIx_lst, dIx_ref, ixAt_0, ixAt_1, ixAt_2, ixAt_3, iEq_int, iNe_int, dAdd, iAdd, iSub, iNeg, iCmp, iLe, iLt, iGe, iGt, dMul, iMulT, iMul, iMod, iDiv, gIx, setIx, decide_true, decide_false, decide_eq_true_eq, Bool.not_eq_true, List.length_map, gets_ok, gets_bind, gets_ite, rsw_ite, rsw_seq, rsw_thn, rsw_nx, rsw_ret, rst_x, rsx_seq, rsx_nx, rsx_ret, rsx_brk, rsx_cont, rsx_ite, rsx_thn, gets_fnM, onlyP, Option.map_some, Src.items]
    refine draw_w hw' (by omega) (by omega) fun c w5 hc hw5 => ?_
    simp only [mVar, mK, mBin, mUn, mTru, mTest, mAnd, mOr, mNot, mAndV, mOrV, mNotV, mIf, mNil, mCons, mTup, mLst, mLstF, mCall, mChain, mIsi, fIsi, tyD, tyP, mSlice, oNo, oSome, mSeq, srcOf, mRange1, mRange2, sNext, sSeq, sIf, sRet, sRetN, sExpr, sSet, sAsg, sAug, sFor, sRaise, gSet, gMore, gNone, Mp.gTup, mMeth, fAppend, mEnum, srcEnum, mDNew, fLen, fInt, truth, ptruth, asB, pp1, pp2, ret1, dIs, isN, allP, frzD, mFrz, List.map_cons, List.map_nil, List.cons_append, List.nil_append, List.length_cons, List.length_nil, List.getElem?_cons_zero, List.getElem?_cons_succ, List.getElem?_nil, List.set_cons_zero, List.set_cons_succ, if_true, ite_true, Nat.reduceAdd, Nat.reduceSub, List.replicate, Bool.false_eq_true, if_false, Bool.not_true, Bool.not_false, mp_ft, mp_tf, isTy, beq_self_eq_true, isi0, isi1, isi2, isi3, isi4, isi5, isi6, isi7, isi8, isi9, isi10, isi11, isi12, isi13, isi14, isi15, isi16, isi17, isi18, isi19, isi20, isi21, isi22, isi23, isi24, isi25, isi26, isi27, isi28, isi29, isi30, isi31, isi32, isi33, isi34, isi35, isi36, isi37, isi38, isi39, isi40, isi41, onlyF, dIx_tup, dIx_lst, dIx_ref, ixAt_0, ixAt_1, ixAt_2, ixAt_3, iEq_int, iNe_int, dAdd, iAdd, iSub, iNeg, iCmp, iLe, iLt, iGe, iGt, dMul, iMulT, iMul, iMod, iDiv, gIx, setIx, decide_true, decide_false, decide_eq_true_eq, Bool.not_eq_true, List.length_map, gets_ok, gets_bind, gets_ite, rsw_ite, rsw_seq, rsw_thn, rsw_nx, rsw_ret, rst_x, rsx_seq, rsx_nx, rsx_ret, rsx_brk, rsx_cont, rsx_ite, rsx_thn, gets_fnM, onlyP, Option.map_some, Src.items]
    exact ⟨⟨trivial, hw5⟩, 1 + c, by omega, by rw [natAdd1]⟩
  · rintro as ⟨g', w2⟩ hla has ⟨rfl, hw2⟩
    rw [rng_len, Int.toNat_natCast] at hla
    obtain ⟨ms, hp, hs⟩ : ∃ ms : List Nat, ms.Perm as ∧ srtI (as.map fun q : Nat => (q : Int)) = ms.map fun q : Nat => (q : Int) := by
      have hp := srtI_perm (as.map fun q : Nat => (q : Int))
      refine ⟨(srtI (as.map fun q : Nat => (q : Int))).map Int.toNat, ?_, ?_⟩
      · have := hp.map Int.toNat
        rwa [List.map_map, show (Int.toNat ∘ fun q : Nat => (q : Int)) = id from rfl, List.map_id] at this
      · rw [List.map_map]
        refine (List.map_id _).symm.trans (List.map_congr_left fun x hx => ?_)
        obtain ⟨c, _, rfl⟩ := List.mem_map.mp (hp.mem_iff.mp hx)
        rfl
    have es : ∀ s, fSortedF [.p (.list (as.map fun c : Nat => PyData.int (c : Int)))] s = .ok (.p (.list (ms.map eN))) s := fun s => by
      have e : allI (as.map fun c : Nat => PyData.int (c : Int)) = some (as.map fun q : Nat => (q : Int)) := allI_map
      have e2 : ((ms.map fun q : Nat => (q : Int)).map PyData.int) = ms.map eN := by simp [eN, Function.comp_def]
      simp only [fSortedF, lstP, e, hs, e2]
    have hml : ms.length = k := by rw [hp.length_eq]; omega
    have hm1 : ∀ p ∈ ms, 1 ≤ p := fun p hpm => has p (hp.mem_iff.mp hpm)
    simp only [mVar, mK, mBin, mUn, mTru, mTest, mAnd, mOr, mNot, mAndV, mOrV, mNotV, mIf, mNil, mCons, mTup, mLst, mLstF, mCall, mChain, mIsi, fIsi, tyD, tyP, mSlice, oNo, oSome, mSeq, srcOf, mRange1, mRange2, sNext, sSeq, sIf, sRet, sRetN, sExpr, sSet, sAsg, sAug, sFor, sRaise, gSet, gMore, gNone, Mp.gTup, mMeth, fAppend, mEnum, srcEnum, mDNew, fLen, fInt, truth, ptruth, asB, pp1, pp2, ret1, dIs, isN, allP, frzD, mFrz, List.map_cons, List.map_nil, List.cons_append, List.nil_append, List.length_cons, List.length_nil, List.getElem?_cons_zero, List.getElem?_cons_succ, List.getElem?_nil, List.set_cons_zero, List.set_cons_succ, if_true, ite_true, Nat.reduceAdd, Nat.reduceSub, List.replicate, Bool.false_eq_true, if_false, Bool.not_true, Bool.not_false, mp_ft, mp_tf, isTy, beq_self_eq_true, isi0, isi1, isi2, isi3, isi4, isi5, isi6, isi7, isi8, isi9, isi10, isi11, isi12, isi13, isi14, isi15, isi16, isi17, isi18, isi19, isi20, isi21, isi22, isi23, isi24, isi25, isi26, isi27, isi28, isi29, isi30, isi31, isi32, isi33, isi34, isi35, isi36, isi37, isi38, isi39, isi40, isi41, onlyF, dIx_tup, dIx_lst, dIx_ref, ixAt_0, ixAt_1, ixAt_2, ixAt_3, iEq_int, iNe_int, dAdd, iAdd, iSub, iNeg, iCmp, iLe, iLt, iGe, iGt, dMul, iMulT, iMul, iMod, iDiv, gIx, setIx, decide_true, decide_false, decide_eq_true_eq, Bool.not_eq_true, List.length_map, gets_ok, gets_bind, gets_ite, rsw_ite, rsw_seq, rsw_thn, rsw_nx, rsw_ret, rst_x, rsx_seq, rsx_nx, rsx_ret, rsx_brk, rsx_cont, rsx_ite, rsx_thn, gets_fnM, onlyP, Option.map_some, Src.items, kFrz, allP_map, es, newLst, z0, rq, Int.toNat_natCast, rng0]
    refine for_gets (J := fun xs e s' => ∃ (i : Nat) (e4 e6 e7 : Option D), i ≤ q ∧ xs = ((List.range q).drop i).map (fun k => D.p (eN k)) ∧ s' = ⟨[some (.lst (((List.range i).map (numF ms)).map fun k => D.p (eN k)))], w2⟩ ∧ e = [some (.well 0), some (.p (.int (q : Int))), some (.p (.int (k : Int))), some (.p (.list (ms.map eN))), e4, some (.ref 0), e6, e7]) (fun _ _ _ _ => trivial) ?_ ?_ _ _ _ ⟨0, _, _, _, Nat.zero_le _, by simp, rfl, rfl⟩
    · rintro x xs e s' ⟨i, e4, e6, e7, hi, hx, rfl, rfl⟩
      have hi' : i < q := by
        rcases Nat.lt_or_ge i q with h | h
        · exact h
        · rw [List.drop_eq_nil_of_le (by simpa using h)] at hx
          cases hx
      rw [List.drop_eq_getElem_cons (by simpa using hi')] at hx
      simp only [List.map_cons, List.getElem_range, List.cons.injEq] at hx
      obtain ⟨rfl, rfl⟩ := hx
      have zm : Mp.sizeOk ms.length = true := sizeOk_of (by omega)
      have zi : Mp.sizeOk (i + 1) = true := sizeOk_of (by omega)
      simp only [mVar, mK, mBin, mUn, mTru, mTest, mAnd, mOr, mNot, mAndV, mOrV, mNotV, mIf, mNil, mCons, mTup, mLst, mLstF, mCall, mChain, mIsi, fIsi, tyD, tyP, mSlice, oNo, oSome, mSeq, srcOf, mRange1, mRange2, sNext, sSeq, sIf, sRet, sRetN, sExpr, sSet, sAsg, sAug, sFor, sRaise, gSet, gMore, gNone, Mp.gTup, mMeth, fAppend, mEnum, srcEnum, mDNew, fLen, fInt, truth, ptruth, asB, pp1, pp2, ret1, dIs, isN, allP, frzD, mFrz, List.map_cons, List.map_nil, List.cons_append, List.nil_append, List.length_cons, List.length_nil, List.getElem?_cons_zero, List.getElem?_cons_succ, List.getElem?_nil, List.set_cons_zero, List.set_cons_succ, if_true, ite_true, Nat.reduceAdd, Nat.reduceSub, List.replicate, Bool.false_eq_true, if_false, Bool.not_true, Bool.not_false, mp_ft, mp_tf, isTy, beq_self_eq_true, isi0, isi1, isi2, isi3, isi4, isi5, isi6, isi7, isi8, isi9, isi10, isi11, isi12, isi13, isi14, isi15, isi16, isi17, isi18, isi19, isi20, isi21, isi22, isi23, isi24, isi25, isi26, isi27, isi28, isi29, isi30, isi31, isi32, isi33, isi34, isi35, isi36, isi37, isi38, isi39, isi40, isi41, onlyF, dIx_tup, dIx_lst, dIx_ref, ixAt_0, ixAt_1, ixAt_2, ixAt_3, iEq_int, iNe_int, dAdd, iAdd, iSub, iNeg, iCmp, iLe, iLt, iGe, iGt, dMul, iMulT, iMul, iMod, iDiv, gIx, setIx, decide_true, decide_false, decide_eq_true_eq, Bool.not_eq_true, List.length_map, gets_ok, gets_bind, gets_ite, rsw_ite, rsw_seq, rsw_thn, rsw_nx, rsw_ret, rst_x, rsx_seq, rsx_nx, rsx_ret, rsx_brk, rsx_cont, rsx_ite, rsx_thn, gets_fnM, onlyP, Option.map_some, Src.items, mLc, wipeE, List.length_map, zm, map_map, eN]
      rw [lc_filter (a := fun p : Nat => D.p (.int (p : Int))) (f := fun p : Nat => D.p (.int (p : Int))) (p := fun p => decide (p ≤ i)) trivial (fun p _ => by
        simp only [pureRun, onlyP, fnM, mVar, mK, mBin, mUn, mTru, mTest, mAnd, mOr, mNot, mAndV, mOrV, mNotV, mIf, mNil, mCons, mTup, mLst, mLstF, mCall, mChain, mIsi, fIsi, tyD, tyP, mSlice, oNo, oSome, mSeq, srcOf, mRange1, mRange2, sNext, sSeq, sIf, sRet, sRetN, sExpr, sSet, sAsg, sAug, sFor, sRaise, gSet, gMore, gNone, Mp.gTup, mMeth, fAppend, mEnum, srcEnum, mDNew, fLen, fInt, truth, ptruth, asB, pp1, pp2, ret1, dIs, isN, allP, frzD, mFrz, Mp.R.bind, R.thn, RS.seq, List.map_cons, List.map_nil, List.cons_append, List.nil_append, List.length_cons, List.length_nil, List.getElem?_cons_zero, List.getElem?_cons_succ, List.getElem?_nil, List.set_cons_zero, List.set_cons_succ, if_true, ite_true, Nat.reduceAdd, Nat.reduceSub, List.replicate, Bool.false_eq_true, if_false, Bool.not_true, Bool.not_false, mp_ft, mp_tf, isTy, beq_self_eq_true, isi0, isi1, isi2, isi3, isi4, isi5, isi6, isi7, isi8, isi9, isi10, isi11, isi12, isi13, isi14, isi15, isi16, isi17, isi18, isi19, isi20, isi21, isi22, isi23, isi24, isi25, isi26, isi27, isi28, isi29, isi30, isi31, isi32, isi33, isi34, isi35, isi36, isi37, isi38, isi39, isi40, isi41, onlyF, dIx_tup, dIx_lst, dIx_ref, ixAt_0, ixAt_1, ixAt_2, ixAt_3, iEq_int, iNe_int, dAdd, iAdd, iSub, iNeg, iCmp, iLe, iLt, iGe, iGt, dMul, iMulT, iMul, iMod, iDiv, gIx, setIx, decide_true, decide_false, decide_eq_true_eq, Bool.not_eq_true, List.length_map]
        by_cases hpi : p ≤ i
        · have : (p : Int) ≤ (i : Int) := by omega
          simp [hpi, this]
        · have : ¬ (p : Int) ≤ (i : Int) := by omega
          simp [hpi, this]) (fun p _ _ => by simp only [pureRun, onlyP, fnM, mVar, mK, mBin, mUn, mTru, mTest, mAnd, mOr, mNot, mAndV, mOrV, mNotV, mIf, mNil, mCons, mTup, mLst, mLstF, mCall, mChain, mIsi, fIsi, tyD, tyP, mSlice, oNo, oSome, mSeq, srcOf, mRange1, mRange2, sNext, sSeq, sIf, sRet, sRetN, sExpr, sSet, sAsg, sAug, sFor, sRaise, gSet, gMore, gNone, Mp.gTup, mMeth, fAppend, mEnum, srcEnum, mDNew, fLen, fInt, truth, ptruth, asB, pp1, pp2, ret1, dIs, isN, allP, frzD, mFrz, Mp.R.bind, R.thn, RS.seq, List.map_cons, List.map_nil, List.cons_append, List.nil_append, List.length_cons, List.length_nil, List.getElem?_cons_zero, List.getElem?_cons_succ, List.getElem?_nil, List.set_cons_zero, List.set_cons_succ, if_true, ite_true, Nat.reduceAdd, Nat.reduceSub, List.replicate, Bool.false_eq_true, if_false, Bool.not_true, Bool.not_false, mp_ft, mp_tf, isTy, beq_self_eq_true, isi0, isi1, isi2, isi3, isi4, isi5, isi6, isi7, isi8, isi9, isi10, isi11, isi12, isi13, isi14, isi15, isi16, isi17, isi18, isi19, isi20, isi21, isi22, isi23, isi24, isi25, isi26, isi27, isi28, isi29, isi30, isi31, isi32, isi33, isi34, isi35, isi36, isi37, isi38, isi39, isi40, isi41, onlyF, dIx_tup, dIx_lst, dIx_ref, ixAt_0, ixAt_1, ixAt_2, ixAt_3, iEq_int, iNe_int, dAdd, iAdd, iSub, iNeg, iCmp, iLe, iLt, iGe, iGt, dMul, iMulT, iMul, iMod, iDiv, gIx, setIx, decide_true, decide_false, decide_eq_true_eq, Bool.not_eq_true, List.length_map])]
      simp only [mVar, mK, mBin, mUn, mTru, mTest, mAnd, mOr, mNot, mAndV, mOrV, mNotV, mIf, mNil, mCons, mTup, mLst, mLstF, mCall, mChain, mIsi, fIsi, tyD, tyP, mSlice, oNo, oSome, mSeq, srcOf, mRange1, mRange2, sNext, sSeq, sIf, sRet, sRetN, sExpr, sSet, sAsg, sAug, sFor, sRaise, gSet, gMore, gNone, Mp.gTup, mMeth, fAppend, mEnum, srcEnum, mDNew, fLen, fInt, truth, ptruth, asB, pp1, pp2, ret1, dIs, isN, allP, frzD, mFrz, List.map_cons, List.map_nil, List.cons_append, List.nil_append, List.length_cons, List.length_nil, List.getElem?_cons_zero, List.getElem?_cons_succ, List.getElem?_nil, List.set_cons_zero, List.set_cons_succ, if_true, ite_true, Nat.reduceAdd, Nat.reduceSub, List.replicate, Bool.false_eq_true, if_false, Bool.not_true, Bool.not_false, mp_ft, mp_tf, isTy, beq_self_eq_true, isi0, isi1, isi2, isi3, isi4, isi5, isi6, isi7, isi8, isi9, isi10, isi11, isi12, isi13, isi14, isi15, isi16, isi17, isi18, isi19, isi20, isi21, isi22, isi23, isi24, isi25, isi26, isi27, isi28, isi29, isi30, isi31, isi32, isi33, isi34, isi35, isi36, isi37, isi38, isi39, isi40, isi41, onlyF, dIx_tup, dIx_lst, dIx_ref, ixAt_0, ixAt_1, ixAt_2, ixAt_3, iEq_int, iNe_int, dAdd, iAdd, iSub, iNeg, iCmp, iLe, iLt, iGe, iGt, dMul, iMulT, iMul, iMod, iDiv, gIx, setIx, decide_true, decide_false, decide_eq_true_eq, Bool.not_eq_true, List.length_map, gets_ok, gets_bind, gets_ite, rsw_ite, rsw_seq, rsw_thn, rsw_nx, rsw_ret, rst_x, rsx_seq, rsx_nx, rsx_ret, rsx_brk, rsx_cont, rsx_ite, rsx_thn, gets_fnM, onlyP, Option.map_some, Src.items, kFrz, allP_map, List.length_map, List.length_range, zi]
      exact ⟨i + 1, _, _, _, hi', rfl, by
        rw [List.range_succ]
        simp [numF, eN], rfl⟩
    · rintro e s' ⟨i, e4, e6, e7, hi, hx, rfl, rfl⟩
      have hiq : i = q := by
        have := congrArg List.length hx
        simp at this
        omega
      subst hiq
      simp only [mVar, mK, mBin, mUn, mTru, mTest, mAnd, mOr, mNot, mAndV, mOrV, mNotV, mIf, mNil, mCons, mTup, mLst, mLstF, mCall, mChain, mIsi, fIsi, tyD, tyP, mSlice, oNo, oSome, mSeq, srcOf, mRange1, mRange2, sNext, sSeq, sIf, sRet, sRetN, sExpr, sSet, sAsg, sAug, sFor, sRaise, gSet, gMore, gNone, Mp.gTup, mMeth, fAppend, mEnum, srcEnum, mDNew, fLen, fInt, truth, ptruth, asB, pp1, pp2, ret1, dIs, isN, allP, frzD, mFrz, List.map_cons, List.map_nil, List.cons_append, List.nil_append, List.length_cons, List.length_nil, List.getElem?_cons_zero, List.getElem?_cons_succ, List.getElem?_nil, List.set_cons_zero, List.set_cons_succ, if_true, ite_true, Nat.reduceAdd, Nat.reduceSub, List.replicate, Bool.false_eq_true, if_false, Bool.not_true, Bool.not_false, mp_ft, mp_tf, isTy, beq_self_eq_true, isi0, isi1, isi2, isi3, isi4, isi5, isi6, isi7, isi8, isi9, isi10, isi11, isi12, isi13, isi14, isi15, isi16, isi17, isi18, isi19, isi20, isi21, isi22, isi23, isi24, isi25, isi26, isi27, isi28, isi29, isi30, isi31, isi32, isi33, isi34, isi35, isi36, isi37, isi38, isi39, isi40, isi41, onlyF, dIx_tup, dIx_lst, dIx_ref, ixAt_0, ixAt_1, ixAt_2, ixAt_3, iEq_int, iNe_int, dAdd, iAdd, iSub, iNeg, iCmp, iLe, iLt, iGe, iGt, dMul, iMulT, iMul, iMod, iDiv, gIx, setIx, decide_true, decide_false, decide_eq_true_eq, Bool.not_eq_true, List.length_map, gets_ok, gets_bind, gets_ite, rsw_ite, rsw_seq, rsw_thn, rsw_nx, rsw_ret, rst_x, rsx_seq, rsx_nx, rsx_ret, rsx_brk, rsx_cont, rsx_ite, rsx_thn, gets_fnM, onlyP, Option.map_some, Src.items, allP_map]
      exact ⟨_, rfl, h ms _ hml hm1 hw2⟩

/-! _law_moved -/
theorem sc__law_moved : FnScope ["_law_step_here", "_law_numbers_here"] ["_law_step_here", "_law_numbers_here"] (defScope t__law_moved) := ⟨rfl, rfl, rfl, by decide +kernel, rfl, by decide +kernel, by decide +kernel⟩
theorem bn__law_moved : BindN "_law_moved" t__law_moved ["_law_step_here", "_law_numbers_here"] := fun _ _ _ _ _ _ us hl => match us, hl with | [_, _], _ => rfl
noncomputable def b__law_moved : MS := (sSeq (sIf (mTest (mBin (dIs true) (mVar 0) (mK .none))) (sRet (mK .none)) sNext) (sRet (mTup (mCons (mBin dIx (mVar 0) (mK (.int 0))) (mCons (mBin dIx (mVar 1) (mBin dIx (mVar 0) (mK (.int 1)))) mNil)))))
theorem raw__law_moved (N : Nm K mg) : DefOk P w K mg base "_law_moved" 1 2 (fnM 2 2 b__law_moved) := def_mk N.d__law_moved sc__law_moved bn__law_moved rfl rfl fun f cdv A outer s H E hr nd tk hp => (ss_cons (s_if (t_cmp o_is (e_var (i := 0)) e_none (nomark _)) (ss_one (s_ret e_none)) ss_nil) (ss_one (s_ret (e_tup (a_cons (e_ix (e_var (i := 0)) e_int) (a_cons (e_ix (e_var (i := 1)) (e_ix (e_var (i := 0)) e_int)) a_nil))))))
noncomputable def M__law_moved : List D → S → R D := pureRun (fnM 2 2 b__law_moved)
theorem ok__law_moved (N : Nm K mg) : DefOk P w K mg base "_law_moved" 1 2 M__law_moved := (raw__law_moved N).alone
def mvS (ns : List Nat) : MSt → MSt
  | none => none
  | some p => some (p.1, ns.getD p.2 0)
theorem moved_eq {st : MSt} {ns : List Nat} {s : S} (h : ∀ p, st = some p → p.2 < ns.length) : M__law_moved [.p (eS st), .p (.list (ns.map eN))] s = .ok (.p (eS (mvS ns st))) s := by
  have z2 : Mp.sizeOk 2 = true := by decide
  cases st with
  | none => rfl
  | some p =>
    have hp := h p rfl
    have e : ixAt (ns.map eN) (p.2 : Int) = some (eN (ns.getD p.2 0)) := by
      rw [ixAt_nat (by simpa using hp)]
      simp [hp]
    simp [M__law_moved, b__law_moved, pureRun, onlyP, fnM, mVar, mK, mBin, mUn, mTru, mTest, mAnd, mOr, mNot, mAndV, mOrV, mNotV, mIf, mNil, mCons, mTup, mLst, mLstF, mCall, mChain, mIsi, fIsi, tyD, tyP, mSlice, oNo, oSome, mSeq, srcOf, mRange1, mRange2, sNext, sSeq, sIf, sRet, sRetN, sExpr, sSet, sAsg, sAug, sFor, sRaise, gSet, gMore, gNone, Mp.gTup, mMeth, fAppend, mEnum, srcEnum, mDNew, fLen, fInt, truth, ptruth, asB, pp1, pp2, ret1, dIs, isN, allP, frzD, mFrz, Mp.R.bind, R.thn, RS.seq, List.map_cons, List.map_nil, List.cons_append, List.nil_append, List.length_cons, List.length_nil, List.getElem?_cons_zero, List.getElem?_cons_succ, List.getElem?_nil, List.set_cons_zero, List.set_cons_succ, if_true, ite_true, Nat.reduceAdd, Nat.reduceSub, List.replicate, Bool.false_eq_true, if_false, Bool.not_true, Bool.not_false, mp_ft, mp_tf, isTy, beq_self_eq_true, isi0, isi1, isi2, isi3, isi4, isi5, isi6, isi7, isi8, isi9, isi10, isi11, isi12, isi13, isi14, isi15, isi16, isi17, isi18, isi19, isi20, isi21, isi22, isi23, isi24, isi25, isi26, isi27, isi28, isi29, isi30, isi31, isi32, isi33, isi34, isi35, isi36, isi37, isi38, isi39, isi40, isi41, onlyF, dIx_tup, dIx_lst, dIx_ref, ixAt_0, ixAt_1, ixAt_2, ixAt_3, iEq_int, iNe_int, dAdd, iAdd, iSub, iNeg, iCmp, iLe, iLt, iGe, iGt, dMul, iMulT, iMul, iMod, iDiv, gIx, setIx, decide_true, decide_false, decide_eq_true_eq, Bool.not_eq_true, List.length_map, eS, mvS, e, z2, isN, eN]

/-! _law_into -/
theorem sc__law_into : FnScope ["_law_well_here", "_law_step_here", "_law_blind"] ["_law_well_here", "_law_step_here", "_law_blind"] (defScope t__law_into) := ⟨rfl, rfl, rfl, by decide +kernel, rfl, by decide +kernel, by decide +kernel⟩
theorem bn__law_into : BindN "_law_into" t__law_into ["_law_well_here", "_law_step_here", "_law_blind"] := fun _ _ _ _ _ _ us hl => match us, hl with | [_, _, _], _ => rfl
noncomputable def b__law_into : MS := (sSeq (sIf (mOr (mTest (mBin (dIs false) (mVar 1) (mK .none))) (mOr (mTest (mBin (pp2 iEq) (mCall fLen (mCons (mVar 2) mNil)) (mK (.int 0)))) (mTest (mBin (pp2 iEq) (mCall M__law_draw (mCons (mVar 0) (mCons (mK (.int 2)) mNil))) (mK (.int 0)))))) (sRet (mVar 1)) sNext) (sRet (mTup (mCons (mCall M__law_more (mCons (mVar 0) mNil)) (mCons (mBin dIx (mVar 2) (mCall M__law_draw (mCons (mVar 0) (mCons (mCall fLen (mCons (mVar 2) mNil)) mNil)))) mNil)))))
theorem raw__law_into (N : Nm K mg) : DefOk P w K mg base "_law_into" 5 3 (fnM 3 3 b__law_into) := def_mk N.d__law_into sc__law_into bn__law_into rfl rfl fun f cdv A outer s H E hr nd tk hp => (ss_cons (s_if (t_w (w_or (t_cmp o_isnot (e_var (i := 1)) e_none (nomark _)) (w_or (t_cmp (o_eq hr.units) (e_bi b_len rfl N.f_len bt_len (a_cons (e_var (i := 2)) a_nil)) e_int (nomark _)) (w_or1 (t_cmp (o_eq hr.units) (e_callS (ok__law_draw N) hr (by decide) tk (a_cons (e_var (i := 0)) (a_cons e_int a_nil)) (argN_cons (argN_cons argN_nil))) e_int (nomark _)))))) (ss_one (s_ret (e_var (i := 1)))) ss_nil) (ss_one (s_ret (e_tup (a_cons (e_callS (ok__law_more N) hr (by decide) tk (a_cons (e_var (i := 0)) a_nil) (argN_cons argN_nil)) (a_cons (e_ix (e_var (i := 2)) (e_callS (ok__law_draw N) hr (by decide) tk (a_cons (e_var (i := 0)) (a_cons (e_bi b_len rfl N.f_len bt_len (a_cons (e_var (i := 2)) a_nil)) a_nil)) (argN_cons (argN_cons argN_nil)))) a_nil))))))
theorem Mx__law_into : ∃ f : List D → S → R D, f = pureRun (fnM 3 3 b__law_into) := ⟨_, rfl⟩
noncomputable def M__law_into : List D → S → R D := Classical.choose Mx__law_into
theorem Me__law_into : M__law_into = pureRun (fnM 3 3 b__law_into) := Classical.choose_spec Mx__law_into
theorem ok__law_into (N : Nm K mg) : DefOk P w K mg base "_law_into" 5 3 M__law_into := by rw [Me__law_into]; exact (raw__law_into N).alone
theorem into_w {g w : GH} {st : MSt} {bs : List Nat} {Q : D → S → Prop} (hl : bs.length ≤ 1000) (hw : WA w) (h : ∀ st' w', (st' = st ∨ st = none ∧ ∃ c b, st' = some (c, b) ∧ c ≤ 60 ∧ b ∈ bs) → WA w' → Q (.p (eS st')) ⟨g, w'⟩) : Gets (M__law_into [.well 0, .p (eS st), .p (.list (bs.map eN))] ⟨g, w⟩) Q := by
  rw [Me__law_into]; refine pure_gets rfl ?_
  have z2 : Mp.sizeOk 2 = true := by decide
  cases st with
  | some p =>
    simp only [b__law_into, mVar, mK, mBin, mUn, mTru, mTest, mAnd, mOr, mNot, mAndV, mOrV, mNotV, mIf, mNil, mCons, mTup, mLst, mLstF, mCall, mChain, mIsi, fIsi, tyD, tyP, mSlice, oNo, oSome, mSeq, srcOf, mRange1, mRange2, sNext, sSeq, sIf, sRet, sRetN, sExpr, sSet, sAsg, sAug, sFor, sRaise, gSet, gMore, gNone, Mp.gTup, mMeth, fAppend, mEnum, srcEnum, mDNew, fLen, fInt, truth, ptruth, asB, pp1, pp2, ret1, dIs, isN, allP, frzD, mFrz, List.map_cons, List.map_nil, List.cons_append, List.nil_append, List.length_cons, List.length_nil, List.getElem?_cons_zero, List.getElem?_cons_succ, List.getElem?_nil, List.set_cons_zero, List.set_cons_succ, if_true, ite_true, Nat.reduceAdd, Nat.reduceSub, List.replicate, Bool.false_eq_true, if_false, Bool.not_true, Bool.not_false, mp_ft, mp_tf, isTy, beq_self_eq_true, isi0, isi1, isi2, isi3, isi4, isi5, isi6, isi7, isi8, isi9, isi10, isi11, isi12, isi13, isi14, isi15, isi16, isi17, isi18, isi19, isi20, isi21, isi22, isi23, isi24, isi25, isi26, isi27, isi28, isi29, isi30, isi31, isi32, isi33, isi34, isi35, isi36, isi37, isi38, isi39, isi40, isi41, onlyF, dIx_tup, dIx_lst, dIx_ref, ixAt_0, ixAt_1, ixAt_2, ixAt_3, iEq_int, iNe_int, dAdd, iAdd, iSub, iNeg, iCmp, iLe, iLt, iGe, iGt, dMul, iMulT, iMul, iMod, iDiv, gIx, setIx, decide_true, decide_false, decide_eq_true_eq, Bool.not_eq_true, List.length_map, gets_ok, gets_bind, gets_ite, rsw_ite, rsw_seq, rsw_thn, rsw_nx, rsw_ret, rst_x, rsx_seq, rsx_nx, rsx_ret, rsx_brk, rsx_cont, rsx_ite, rsx_thn, gets_fnM, onlyP, Option.map_some, Src.items, eS]
    exact ⟨_, rfl, h (some p) w (.inl rfl) hw⟩
  | none =>
    have zl : Mp.sizeOk bs.length = true := sizeOk_of (by omega)
    by_cases h0 : (bs.length : Int) = 0
    · simp only [b__law_into, mVar, mK, mBin, mUn, mTru, mTest, mAnd, mOr, mNot, mAndV, mOrV, mNotV, mIf, mNil, mCons, mTup, mLst, mLstF, mCall, mChain, mIsi, fIsi, tyD, tyP, mSlice, oNo, oSome, mSeq, srcOf, mRange1, mRange2, sNext, sSeq, sIf, sRet, sRetN, sExpr, sSet, sAsg, sAug, sFor, sRaise, gSet, gMore, gNone, Mp.gTup, mMeth, fAppend, mEnum, srcEnum, mDNew, fLen, fInt, truth, ptruth, asB, pp1, pp2, ret1, dIs, isN, allP, frzD, mFrz, List.map_cons, List.map_nil, List.cons_append, List.nil_append, List.length_cons, List.length_nil, List.getElem?_cons_zero, List.getElem?_cons_succ, List.getElem?_nil, List.set_cons_zero, List.set_cons_succ, if_true, ite_true, Nat.reduceAdd, Nat.reduceSub, List.replicate, Bool.false_eq_true, if_false, Bool.not_true, Bool.not_false, mp_ft, mp_tf, isTy, beq_self_eq_true, isi0, isi1, isi2, isi3, isi4, isi5, isi6, isi7, isi8, isi9, isi10, isi11, isi12, isi13, isi14, isi15, isi16, isi17, isi18, isi19, isi20, isi21, isi22, isi23, isi24, isi25, isi26, isi27, isi28, isi29, isi30, isi31, isi32, isi33, isi34, isi35, isi36, isi37, isi38, isi39, isi40, isi41, onlyF, dIx_tup, dIx_lst, dIx_ref, ixAt_0, ixAt_1, ixAt_2, ixAt_3, iEq_int, iNe_int, dAdd, iAdd, iSub, iNeg, iCmp, iLe, iLt, iGe, iGt, dMul, iMulT, iMul, iMod, iDiv, gIx, setIx, decide_true, decide_false, decide_eq_true_eq, Bool.not_eq_true, List.length_map, gets_ok, gets_bind, gets_ite, rsw_ite, rsw_seq, rsw_thn, rsw_nx, rsw_ret, rst_x, rsx_seq, rsx_nx, rsx_ret, rsx_brk, rsx_cont, rsx_ite, rsx_thn, gets_fnM, onlyP, Option.map_some, Src.items, eS, h0]
      exact ⟨_, rfl, h none w (.inl rfl) hw⟩
    · simp only [b__law_into, mVar, mK, mBin, mUn, mTru, mTest, mAnd, mOr, mNot, mAndV, mOrV, mNotV, mIf, mNil, mCons, mTup, mLst, mLstF, mCall, mChain, mIsi, fIsi, tyD, tyP, mSlice, oNo, oSome, mSeq, srcOf, mRange1, mRange2, sNext, sSeq, sIf, sRet, sRetN, sExpr, sSet, sAsg, sAug, sFor, sRaise, gSet, gMore, gNone, Mp.gTup, mMeth, fAppend, mEnum, srcEnum, mDNew, fLen, fInt, truth, ptruth, asB, pp1, pp2, ret1, dIs, isN, allP, frzD, mFrz, List.map_cons, List.map_nil, List.cons_append, List.nil_append, List.length_cons, List.length_nil, List.getElem?_cons_zero, List.getElem?_cons_succ, List.getElem?_nil, List.set_cons_zero, List.set_cons_succ, if_true, ite_true, Nat.reduceAdd, Nat.reduceSub, List.replicate, Bool.false_eq_true, if_false, Bool.not_true, Bool.not_false, mp_ft, mp_tf, isTy, beq_self_eq_true, isi0, isi1, isi2, isi3, isi4, isi5, isi6, isi7, isi8, isi9, isi10, isi11, isi12, isi13, isi14, isi15, isi16, isi17, isi18, isi19, isi20, isi21, isi22, isi23, isi24, isi25, isi26, isi27, isi28, isi29, isi30, isi31, isi32, isi33, isi34, isi35, isi36, isi37, isi38, isi39, isi40, isi41, onlyF, dIx_tup, dIx_lst, dIx_ref, ixAt_0, ixAt_1, ixAt_2, ixAt_3, iEq_int, iNe_int, dAdd, iAdd, iSub, iNeg, iCmp, iLe, iLt, iGe, iGt, dMul, iMulT, iMul, iMod, iDiv, gIx, setIx, decide_true, decide_false, decide_eq_true_eq, Bool.not_eq_true, List.length_map, gets_ok, gets_bind, gets_ite, rsw_ite, rsw_seq, rsw_thn, rsw_nx, rsw_ret, rst_x, rsx_seq, rsx_nx, rsx_ret, rsx_brk, rsx_cont, rsx_ite, rsx_thn, gets_fnM, onlyP, Option.map_some, Src.items, eS, h0]
      refine draw_w hw (by decide) (by decide) fun a w2 ha hw2 => ?_
      by_cases h1 : (a : Int) = 0
      · simp only [mVar, mK, mBin, mUn, mTru, mTest, mAnd, mOr, mNot, mAndV, mOrV, mNotV, mIf, mNil, mCons, mTup, mLst, mLstF, mCall, mChain, mIsi, fIsi, tyD, tyP, mSlice, oNo, oSome, mSeq, srcOf, mRange1, mRange2, sNext, sSeq, sIf, sRet, sRetN, sExpr, sSet, sAsg, sAug, sFor, sRaise, gSet, gMore, gNone, Mp.gTup, mMeth, fAppend, mEnum, srcEnum, mDNew, fLen, fInt, truth, ptruth, asB, pp1, pp2, ret1, dIs, isN, allP, frzD, mFrz, List.map_cons, List.map_nil, List.cons_append, List.nil_append, List.length_cons, List.length_nil, List.getElem?_cons_zero, List.getElem?_cons_succ, List.getElem?_nil, List.set_cons_zero, List.set_cons_succ, if_true, ite_true, Nat.reduceAdd, Nat.reduceSub, List.replicate, Bool.false_eq_true, if_false, Bool.not_true, Bool.not_false, mp_ft, mp_tf, isTy, beq_self_eq_true, isi0, isi1, isi2, isi3, isi4, isi5, isi6, isi7, isi8, isi9, isi10, isi11, isi12, isi13, isi14, isi15, isi16, isi17, isi18, isi19, isi20, isi21, isi22, isi23, isi24, isi25, isi26, isi27, isi28, isi29, isi30, isi31, isi32, isi33, isi34, isi35, isi36, isi37, isi38, isi39, isi40, isi41, onlyF, dIx_tup, dIx_lst, dIx_ref, ixAt_0, ixAt_1, ixAt_2, ixAt_3, iEq_int, iNe_int, dAdd, iAdd, iSub, iNeg, iCmp, iLe, iLt, iGe, iGt, dMul, iMulT, iMul, iMod, iDiv, gIx, setIx, decide_true, decide_false, decide_eq_true_eq, Bool.not_eq_true, List.length_map, gets_ok, gets_bind, gets_ite, rsw_ite, rsw_seq, rsw_thn, rsw_nx, rsw_ret, rst_x, rsx_seq, rsx_nx, rsx_ret, rsx_brk, rsx_cont, rsx_ite, rsx_thn, gets_fnM, onlyP, Option.map_some, Src.items, h1]
        exact ⟨_, rfl, h none w2 (.inl rfl) hw2⟩
      · simp only [mVar, mK, mBin, mUn, mTru, mTest, mAnd, mOr, mNot, mAndV, mOrV, mNotV, mIf, mNil, mCons, mTup, mLst, mLstF, mCall, mChain, mIsi, fIsi, tyD, tyP, mSlice, oNo, oSome, mSeq, srcOf, mRange1, mRange2, sNext, sSeq, sIf, sRet, sRetN, sExpr, sSet, sAsg, sAug, sFor, sRaise, gSet, gMore, gNone, Mp.gTup, mMeth, fAppend, mEnum, srcEnum, mDNew, fLen, fInt, truth, ptruth, asB, pp1, pp2, ret1, dIs, isN, allP, frzD, mFrz, List.map_cons, List.map_nil, List.cons_append, List.nil_append, List.length_cons, List.length_nil, List.getElem?_cons_zero, List.getElem?_cons_succ, List.getElem?_nil, List.set_cons_zero, List.set_cons_succ, if_true, ite_true, Nat.reduceAdd, Nat.reduceSub, List.replicate, Bool.false_eq_true, if_false, Bool.not_true, Bool.not_false, mp_ft, mp_tf, isTy, beq_self_eq_true, isi0, isi1, isi2, isi3, isi4, isi5, isi6, isi7, isi8, isi9, isi10, isi11, isi12, isi13, isi14, isi15, isi16, isi17, isi18, isi19, isi20, isi21, isi22, isi23, isi24, isi25, isi26, isi27, isi28, isi29, isi30, isi31, isi32, isi33, isi34, isi35, isi36, isi37, isi38, isi39, isi40, isi41, onlyF, dIx_tup, dIx_lst, dIx_ref, ixAt_0, ixAt_1, ixAt_2, ixAt_3, iEq_int, iNe_int, dAdd, iAdd, iSub, iNeg, iCmp, iLe, iLt, iGe, iGt, dMul, iMulT, iMul, iMod, iDiv, gIx, setIx, decide_true, decide_false, decide_eq_true_eq, Bool.not_eq_true, List.length_map, gets_ok, gets_bind, gets_ite, rsw_ite, rsw_seq, rsw_thn, rsw_nx, rsw_ret, rst_x, rsx_seq, rsx_nx, rsx_ret, rsx_brk, rsx_cont, rsx_ite, rsx_thn, gets_fnM, onlyP, Option.map_some, Src.items, h1]
        refine more_w hw2 fun c w3 hc hw3 => ?_
        try simp only [mVar, mK, mBin, mUn, mTru, mTest, mAnd, mOr, mNot, mAndV, mOrV, mNotV, mIf, mNil, mCons, mTup, mLst, mLstF, mCall, mChain, mIsi, fIsi, tyD, tyP, mSlice, oNo, oSome, mSeq, srcOf, mRange1, mRange2, sNext, sSeq, sIf, sRet, sRetN, sExpr, sSet, sAsg, sAug, sFor, sRaise, gSet, gMore, gNone, Mp.gTup, mMeth, fAppend, mEnum, srcEnum, mDNew, fLen, fInt, truth, ptruth, asB, pp1, pp2, ret1, dIs, isN, allP, frzD, mFrz, List.map_cons, List.map_nil, List.cons_append, List.nil_append, List.length_cons, List.length_nil, List.getElem?_cons_zero, List.getElem?_cons_succ, List.getElem?_nil, List.set_cons_zero, List.set_cons_succ, if_true, ite_true, Nat.reduceAdd, Nat.reduceSub, List.replicate, Bool.false_eq_true, if_false, Bool.not_true, Bool.not_false, mp_ft, mp_tf, isTy, beq_self_eq_true, isi0, isi1, isi2, isi3, isi4, isi5, isi6, isi7, isi8, isi9, isi10, isi11, isi12, isi13, isi14, isi15, isi16, isi17, isi18, isi19, isi20, isi21, isi22, isi23, isi24, isi25, isi26, isi27, isi28, isi29, isi30, isi31, isi32, isi33, isi34, isi35, isi36, isi37, isi38, isi39, isi40, isi41, onlyF, dIx_tup, dIx_lst, dIx_ref, ixAt_0, ixAt_1, ixAt_2, ixAt_3, iEq_int, iNe_int, dAdd, iAdd, iSub, iNeg, iCmp, iLe, iLt, iGe, iGt, dMul, iMulT, iMul, iMod, iDiv, gIx, setIx, decide_true, decide_false, decide_eq_true_eq, Bool.not_eq_true, List.length_map, gets_ok, gets_bind, gets_ite, rsw_ite, rsw_seq, rsw_thn, rsw_nx, rsw_ret, rst_x, rsx_seq, rsx_nx, rsx_ret, rsx_brk, rsx_cont, rsx_ite, rsx_thn, gets_fnM, onlyP, Option.map_some, Src.items]
        refine draw_w hw3 (by omega) (by omega) fun b w4 hb hw4 => ?_
        have hb' : b < bs.length := by omega
        have e : ixAt (bs.map eN) (b : Int) = some (eN bs[b]) := by
          rw [ixAt_nat (by simpa using hb')]
          simp
        simp only [mVar, mK, mBin, mUn, mTru, mTest, mAnd, mOr, mNot, mAndV, mOrV, mNotV, mIf, mNil, mCons, mTup, mLst, mLstF, mCall, mChain, mIsi, fIsi, tyD, tyP, mSlice, oNo, oSome, mSeq, srcOf, mRange1, mRange2, sNext, sSeq, sIf, sRet, sRetN, sExpr, sSet, sAsg, sAug, sFor, sRaise, gSet, gMore, gNone, Mp.gTup, mMeth, fAppend, mEnum, srcEnum, mDNew, fLen, fInt, truth, ptruth, asB, pp1, pp2, ret1, dIs, isN, allP, frzD, mFrz, List.map_cons, List.map_nil, List.cons_append, List.nil_append, List.length_cons, List.length_nil, List.getElem?_cons_zero, List.getElem?_cons_succ, List.getElem?_nil, List.set_cons_zero, List.set_cons_succ, if_true, ite_true, Nat.reduceAdd, Nat.reduceSub, List.replicate, Bool.false_eq_true, if_false, Bool.not_true, Bool.not_false, mp_ft, mp_tf, isTy, beq_self_eq_true, isi0, isi1, isi2, isi3, isi4, isi5, isi6, isi7, isi8, isi9, isi10, isi11, isi12, isi13, isi14, isi15, isi16, isi17, isi18, isi19, isi20, isi21, isi22, isi23, isi24, isi25, isi26, isi27, isi28, isi29, isi30, isi31, isi32, isi33, isi34, isi35, isi36, isi37, isi38, isi39, isi40, isi41, onlyF, dIx_tup, dIx_lst, dIx_ref, ixAt_0, ixAt_1, ixAt_2, ixAt_3, iEq_int, iNe_int, dAdd, iAdd, iSub, iNeg, iCmp, iLe, iLt, iGe, iGt, dMul, iMulT, iMul, iMod, iDiv, gIx, setIx, decide_true, decide_false, decide_eq_true_eq, Bool.not_eq_true, List.length_map, gets_ok, gets_bind, gets_ite, rsw_ite, rsw_seq, rsw_thn, rsw_nx, rsw_ret, rst_x, rsx_seq, rsx_nx, rsx_ret, rsx_brk, rsx_cont, rsx_ite, rsx_thn, gets_fnM, onlyP, Option.map_some, Src.items, e, z2]
        exact ⟨_, rfl, h (some (c, bs[b])) w4 (.inr ⟨rfl, c, bs[b], rfl, hc, List.getElem_mem hb'⟩) hw4⟩

/-! _law_with_more -/
theorem sc__law_with_more : FnScope ["_law_well_here", "_law_machine_here", "_law_size", "_law_rows", "_law_more_here", "_law_numbers_here", "_law_fresh_here", "_law_state", "_law_blind", "_law_found", "_law_steps", "_law_step_here", "_law_there", "_law_letter", "_law_end_here"] ["_law_well_here", "_law_machine_here"] (defScope t__law_with_more) := ⟨rfl, rfl, rfl, by decide +kernel, rfl, by decide +kernel, by decide +kernel⟩
theorem bn__law_with_more : BindN "_law_with_more" t__law_with_more ["_law_well_here", "_law_machine_here"] := fun _ _ _ _ _ _ us hl => match us, hl with | [_, _], _ => rfl
noncomputable def b__law_with_more : MS := (sSeq (sAsg (mVar 1) (gTup 2 (gMore (gSet 2) (gMore (gSet 3) gNone)))) (sSeq (sSet 4 (mBin dAdd (mK (.int 1)) (mCall M__law_draw (mCons (mVar 0) (mCons (mK (.int 6)) mNil))))) (sSeq (sSet 5 (mCall M__law_numbers (mCons (mVar 0) (mCons (mCall fLen (mCons (mVar 3) mNil)) (mCons (mVar 4) mNil))))) (sSeq (sSet 6 (mLc (mRange1 (mBin dAdd (mCall fLen (mCons (mVar 3) mNil)) (mVar 4))) [7] (gSet 7) (mTest (mBin dNotIn (mVar 7) (mVar 5))) (mVar 7) kFrz)) (sSeq (sSet 8 (mSlice (mVar 6) (oSome (mCall M__law_draw (mCons (mVar 0) (mCons (mBin dAdd (mCall fLen (mCons (mVar 6) mNil)) (mK (.int 1))) mNil)))) oNo)) (sSeq (sSet 9 (mBin dRep (mLst (mCons (mK .none) mNil)) (mBin dAdd (mCall fLen (mCons (mVar 3) mNil)) (mVar 4)))) (sSeq (sFor (mRange1 (mCall fLen (mCons (mVar 3) mNil))) (gSet 7) (sSeq (sSet 10 (mLc (mSeq (mBin dIx (mBin dIx (mVar 3) (mVar 7)) (mK (.int 1)))) [11] (gSet 11) mYes (mCall M__law_moved (mCons (mVar 11) (mCons (mVar 5) mNil))) kFrz)) (sAsg (mTup (mCons (mBin dIx (mBin dIx (mVar 3) (mVar 7)) (mK (.int 0))) (mCons (mCall fTuple (mCons (mLc (mSeq (mVar 10)) [11] (gSet 11) mYes (mCall M__law_into (mCons (mVar 0) (mCons (mVar 11) (mCons (mVar 8) mNil)))) kFrz) mNil)) mNil))) (gIx (mVar 9) (mBin dIx (mVar 5) (mVar 7)))))) (sSeq (sFor (mSeq (mVar 6)) (gSet 7) (sSeq (sSet 12 (mBin dIx (mLstF (mCons (mVar 8) (mCons (mBin dCatF (mVar 5) (mVar 6)) mNil))) (mCall fInt (mCons (mBin dNotIn (mVar 7) (mVar 8)) mNil)))) (sSeq (sSet 10 (mLc (mRange1 (mVar 2)) [13] (gSet 13) mYes (mTup (mCons (mCall M__law_more (mCons (mVar 0) mNil)) (mCons (mBin dIx (mVar 12) (mCall M__law_draw (mCons (mVar 0) (mCons (mCall fLen (mCons (mVar 12) mNil)) mNil)))) mNil))) kFrz)) (sSeq (sSet 14 (mBin dIx (mLstF (mCons (mK .none) (mCons (mBin dAdd (mK (.int 1)) (mCall M__law_draw (mCons (mVar 0) (mCons (mK (.int 60)) mNil)))) mNil))) (mCall fInt (mCons (mBin dNotIn (mVar 7) (mVar 8)) mNil)))) (sAsg (mTup (mCons (mVar 14) (mCons (mCall fTuple (mCons (mLc (mSeq (mVar 10)) [11] (gSet 11) mYes (mBin dIx (mLstF (mCons (mVar 11) (mCons (mK .none) mNil))) (mCall fInt (mCons (mBin (pp2 iEq) (mCall M__law_draw (mCons (mVar 0) (mCons (mK (.int 3)) mNil))) (mK (.int 0))) mNil))) kFrz) mNil)) mNil))) (gIx (mVar 9) (mVar 7))))))) (sRet (mTup (mCons (mVar 2) (mCons (mCall fTuple (mCons (mVar 9) mNil)) mNil))))))))))))
theorem raw__law_with_more (N : Nm K mg) : DefOk P w K mg base "_law_with_more" 6 2 (fnM 2 15 b__law_with_more) := def_mk N.d__law_with_more sc__law_with_more bn__law_with_more rfl rfl fun f cdv A outer s H E hr nd tk hp => (ss_cons (s_asg (e_var (i := 1)) (g_tup rfl (gs_cons (g_name (i := 2) nd) (gs_cons (g_name (i := 3) nd) gs_nil QuietG.none) (QuietG.more Quiet1.set QuietG.none)))) (ss_cons (s_set (i := 4) nd (e_bin o_add e_int (e_callS (ok__law_draw N) hr (by decide) tk (a_cons (e_var (i := 0)) (a_cons e_int a_nil)) (argN_cons (argN_cons argN_nil))))) (ss_cons (s_set (i := 5) nd (e_callS (ok__law_numbers N) hr (by decide) tk (a_cons (e_var (i := 0)) (a_cons (e_bi b_len rfl N.f_len bt_len (a_cons (e_var (i := 3)) a_nil)) (a_cons (e_var (i := 4)) a_nil))) (argN_cons (argN_cons (argN_cons argN_nil))))) (ss_cons (s_lcF (i := 6) (own := [("_law_state", 7)]) rfl nd rfl rfl (sw_true rfl rfl rfl (by decide +kernel)) (i_range1 rfl N.f_range (e_bin o_add (e_bi b_len rfl N.f_len bt_len (a_cons (e_var (i := 3)) a_nil)) (e_var (i := 4)))) (blkOk_by (N := ["_law_well_here", "_law_machine_here", "_law_size", "_law_rows", "_law_more_here", "_law_numbers_here", "_law_fresh_here", "_law_state", "_law_blind", "_law_found", "_law_steps", "_law_step_here", "_law_there", "_law_letter", "_law_end_here"]) (sc := defScope t__law_with_more) (own := [("_law_state", 7)]) (by decide +kernel)) (tg_name (i := 7) (by decide)) (fun _ _ _ _ _ => pg_name (i := 7) nd rfl (by first | exact Or.inl rfl | exact Or.inr rfl)) (fun _ _ _ _ _ => (c_if (t_cmp (o_notin (hu65 hr)) (e_var (i := 7)) (e_var (i := 5)) rfl))) (fun _ _ _ _ _ => (e_var (i := 7)))) (ss_cons (s_set (i := 8) nd (e_slice (e_var (i := 6)) (p_some (e_callS (ok__law_draw N) hr (by decide) tk (a_cons (e_var (i := 0)) (a_cons (e_bin o_add (e_bi b_len rfl N.f_len bt_len (a_cons (e_var (i := 6)) a_nil)) e_int) a_nil)) (argN_cons (argN_cons argN_nil)))) p_no)) (ss_cons (s_set (i := 9) nd (e_bin o_rep (e_lst (a_cons e_none a_nil)) (e_bin o_add (e_bi b_len rfl N.f_len bt_len (a_cons (e_var (i := 3)) a_nil)) (e_var (i := 4))))) (ss_cons (s_for hp rfl (i_range1 rfl N.f_range (e_bi b_len rfl N.f_len bt_len (a_cons (e_var (i := 3)) a_nil))) (g_name (i := 7) nd) (ss_cons (s_lcF (i := 10) (own := [("_law_step_here", 11)]) rfl nd rfl rfl (sw_true rfl rfl rfl (by decide +kernel)) (i_seq (e_ix (e_ix (e_var (i := 3)) (e_var (i := 7))) e_int)) (blkOk_by (N := ["_law_well_here", "_law_machine_here", "_law_size", "_law_rows", "_law_more_here", "_law_numbers_here", "_law_fresh_here", "_law_state", "_law_blind", "_law_found", "_law_steps", "_law_step_here", "_law_there", "_law_letter", "_law_end_here"]) (sc := defScope t__law_with_more) (own := [("_law_step_here", 11)]) (by decide +kernel)) (tg_name (i := 11) (by decide)) (fun _ _ _ _ _ => pg_name (i := 11) nd rfl (by first | exact Or.inl rfl | exact Or.inr rfl)) (fun _ _ _ _ _ => c_no) (fun _ _ _ _ _ => (e_callS (ok__law_moved N) hr (by decide) takes0 (a_cons (e_var (i := 11)) (a_cons (e_var (i := 5)) a_nil)) (argN_cons (argN_cons argN_nil))))) (ss_one (s_asg (e_tup (a_cons (e_ix (e_ix (e_var (i := 3)) (e_var (i := 7))) e_int) (a_cons (e_ty b_tuple rfl N.f_tuple bt_tuple (a_cons (e_lcF (own := [("_law_step_here", 11)]) rfl nd (i_seq (e_var (i := 10))) (blkOk_by (N := ["_law_well_here", "_law_machine_here", "_law_size", "_law_rows", "_law_more_here", "_law_numbers_here", "_law_fresh_here", "_law_state", "_law_blind", "_law_found", "_law_steps", "_law_step_here", "_law_there", "_law_letter", "_law_end_here"]) (sc := defScope t__law_with_more) (own := [("_law_step_here", 11)]) (by decide +kernel)) (tg_name (i := 11) (by decide)) (fun _ _ _ _ _ => pg_name (i := 11) nd rfl (by first | exact Or.inl rfl | exact Or.inr rfl)) (fun _ _ _ _ _ => c_no) (fun _ _ _ _ _ => (e_callS (ok__law_into N) hr (by decide) takes0 (a_cons (e_var (i := 0)) (a_cons (e_var (i := 11)) (a_cons (e_var (i := 8)) a_nil))) (argN_cons (argN_cons (argN_cons argN_nil)))))) a_nil)) a_nil))) (g_ix (e_var (i := 9)) (e_ix (e_var (i := 5)) (e_var (i := 7)))))))) (ss_cons (s_for hp rfl (i_seq (e_var (i := 6))) (g_name (i := 7) nd) (ss_cons (s_set (i := 12) nd (e_ix (e_lstF (a_cons (e_var (i := 8)) (a_cons (e_catF (e_var (i := 5)) (e_var (i := 6))) a_nil))) (e_ty b_int rfl N.f_int bt_int (a_cons (e_cmp (o_notin (hu65 hr)) (e_var (i := 7)) (e_var (i := 8)) rfl) a_nil)))) (ss_cons (s_lcF (i := 10) (own := [("_law_letter", 13)]) rfl nd rfl rfl (sw_true rfl rfl rfl (by decide +kernel)) (i_range1 rfl N.f_range (e_var (i := 2))) (blkOk_by (N := ["_law_well_here", "_law_machine_here", "_law_size", "_law_rows", "_law_more_here", "_law_numbers_here", "_law_fresh_here", "_law_state", "_law_blind", "_law_found", "_law_steps", "_law_step_here", "_law_there", "_law_letter", "_law_end_here"]) (sc := defScope t__law_with_more) (own := [("_law_letter", 13)]) (by decide +kernel)) (tg_name (i := 13) (by decide)) (fun _ _ _ _ _ => pg_name (i := 13) nd rfl (by first | exact Or.inl rfl | exact Or.inr rfl)) (fun _ _ _ _ _ => c_no) (fun _ _ _ _ _ => (e_tup (a_cons (e_callS (ok__law_more N) hr (by decide) takes0 (a_cons (e_var (i := 0)) a_nil) (argN_cons argN_nil)) (a_cons (e_ix (e_var (i := 12)) (e_callS (ok__law_draw N) hr (by decide) takes0 (a_cons (e_var (i := 0)) (a_cons (e_bi b_len rfl N.f_len bt_len (a_cons (e_var (i := 12)) a_nil)) a_nil)) (argN_cons (argN_cons argN_nil)))) a_nil))))) (ss_cons (s_set (i := 14) nd (e_ix (e_lstF (a_cons e_none (a_cons (e_bin o_add e_int (e_callS (ok__law_draw N) hr (by decide) tk (a_cons (e_var (i := 0)) (a_cons e_int a_nil)) (argN_cons (argN_cons argN_nil)))) a_nil))) (e_ty b_int rfl N.f_int bt_int (a_cons (e_cmp (o_notin (hu65 hr)) (e_var (i := 7)) (e_var (i := 8)) rfl) a_nil)))) (ss_one (s_asg (e_tup (a_cons (e_var (i := 14)) (a_cons (e_ty b_tuple rfl N.f_tuple bt_tuple (a_cons (e_lcF (own := [("_law_step_here", 11)]) rfl nd (i_seq (e_var (i := 10))) (blkOk_by (N := ["_law_well_here", "_law_machine_here", "_law_size", "_law_rows", "_law_more_here", "_law_numbers_here", "_law_fresh_here", "_law_state", "_law_blind", "_law_found", "_law_steps", "_law_step_here", "_law_there", "_law_letter", "_law_end_here"]) (sc := defScope t__law_with_more) (own := [("_law_step_here", 11)]) (by decide +kernel)) (tg_name (i := 11) (by decide)) (fun _ _ _ _ _ => pg_name (i := 11) nd rfl (by first | exact Or.inl rfl | exact Or.inr rfl)) (fun _ _ _ _ _ => c_no) (fun _ _ _ _ _ => (e_ix (e_lstF (a_cons (e_var (i := 11)) (a_cons e_none a_nil))) (e_ty b_int rfl N.f_int bt_int (a_cons (e_cmp (o_eq hr.units) (e_callS (ok__law_draw N) hr (by decide) takes0 (a_cons (e_var (i := 0)) (a_cons e_int a_nil)) (argN_cons (argN_cons argN_nil))) e_int (nomark _)) a_nil))))) a_nil)) a_nil))) (g_ix (e_var (i := 9)) (e_var (i := 7))))))))) (ss_one (s_ret (e_tup (a_cons (e_var (i := 2)) (a_cons (e_ty b_tuple rfl N.f_tuple bt_tuple (a_cons (e_var (i := 9)) a_nil)) a_nil)))))))))))))
theorem Mx__law_with_more : ∃ f : List D → S → R D, f = pureRun (fnM 2 15 b__law_with_more) := ⟨_, rfl⟩
noncomputable def M__law_with_more : List D → S → R D := Classical.choose Mx__law_with_more
theorem Me__law_with_more : M__law_with_more = pureRun (fnM 2 15 b__law_with_more) := Classical.choose_spec Mx__law_with_more
theorem ok__law_with_more (N : Nm K mg) : DefOk P w K mg base "_law_with_more" 6 2 M__law_with_more := by rw [Me__law_with_more]; exact (raw__law_with_more N).alone
def oR : Option MRow → PyData
  | none => .none
  | some r => eR r
theorem more_state {m : Mac} {q : Nat} (hq : q < m.rs.length) {s : S} {Q : D → S → Prop} (h : Q (.p (eR (m.row q))) s) : Gets (dIx (.p (.tuple (m.rs.map eR))) (.p (.int (q : Int))) s) Q := by
  rw [ix_rs hq]
  exact .of h
theorem with_more_w {g w : GH} {m : Mac} {Q : D → S → Prop} (hm : m.Ok) (h20 : m.rs.length ≤ 20) (hw : WA w) (h : ∀ (m2 : Mac) (N : Nat → Nat) (B : Nat → Prop) (w' : GH), m2.Ok → m.Emb m2 N B → WA w' → Q (.p (eM m2)) ⟨g, w'⟩) : Gets (M__law_with_more [.well 0, .p (eM m)] ⟨g, w⟩) Q := by
  rw [Me__law_with_more]; refine pure_gets rfl ?_
  have z1 : Mp.sizeOk 1 = true := by decide
  have z2 : Mp.sizeOk 2 = true := by decide
  have hr1 := hm.r1
  have hn1 := hm.n1
  have hn8 := hm.n8
  have zq : Mp.sizeOk m.rs.length = true := sizeOk_of (by omega)
  simp only [b__law_with_more, mVar, mK, mBin, mUn, mTru, mTest, mAnd, mOr, mNot, mAndV, mOrV, mNotV, mIf, mNil, mCons, mTup, mLst, mLstF, mCall, mChain, mIsi, fIsi, tyD, tyP, mSlice, oNo, oSome, mSeq, srcOf, mRange1, mRange2, sNext, sSeq, sIf, sRet, sRetN, sExpr, sSet, sAsg, sAug, sFor, sRaise, gSet, gMore, gNone, Mp.gTup, mMeth, fAppend, mEnum, srcEnum, mDNew, fLen, fInt, truth, ptruth, asB, pp1, pp2, ret1, dIs, isN, allP, frzD, mFrz, List.map_cons, List.map_nil, List.cons_append, List.nil_append, List.length_cons, List.length_nil, List.getElem?_cons_zero, List.getElem?_cons_succ, List.getElem?_nil, List.set_cons_zero, List.set_cons_succ, if_true, ite_true, Nat.reduceAdd, Nat.reduceSub, List.replicate, Bool.false_eq_true, if_false, Bool.not_true, Bool.not_false, mp_ft, mp_tf, isTy, beq_self_eq_true, isi0, isi1, isi2, isi3, isi4, isi5, isi6, isi7, isi8, isi9, isi10, isi11, isi12, isi13, isi14, isi15, isi16, isi17, isi18, isi19, isi20, isi21, isi22, isi23, isi24, isi25, isi26, isi27, isi28, isi29, isi30, isi31, isi32, isi33, isi34, isi35, isi36, isi37, isi38, isi39, isi40, isi41, onlyF, dIx_tup, dIx_lst, dIx_ref, ixAt_0, ixAt_1, ixAt_2, ixAt_3, iEq_int, iNe_int, dAdd, iAdd, iSub, iNeg, iCmp, iLe, iLt, iGe, iGt, dMul, iMulT, iMul, iMod, iDiv, gIx, setIx, decide_true, decide_false, decide_eq_true_eq, Bool.not_eq_true, List.length_map, gets_ok, gets_bind, gets_ite, rsw_ite, rsw_seq, rsw_thn, rsw_nx, rsw_ret, rst_x, rsx_seq, rsx_nx, rsx_ret, rsx_brk, rsx_cont, rsx_ite, rsx_thn, gets_fnM, onlyP, Option.map_some, Src.items, eM]
  refine draw_w hw (by decide) (by decide) fun a w1 ha hw1 => ?_
  generalize hk : 1 + a = k
  have hk' : (1 : Int) + (a : Int) = (k : Int) := by omega
  have hk1 : 1 ≤ k := by omega
  have hk6 : k ≤ 6 := by omega
  simp only [mVar, mK, mBin, mUn, mTru, mTest, mAnd, mOr, mNot, mAndV, mOrV, mNotV, mIf, mNil, mCons, mTup, mLst, mLstF, mCall, mChain, mIsi, fIsi, tyD, tyP, mSlice, oNo, oSome, mSeq, srcOf, mRange1, mRange2, sNext, sSeq, sIf, sRet, sRetN, sExpr, sSet, sAsg, sAug, sFor, sRaise, gSet, gMore, gNone, Mp.gTup, mMeth, fAppend, mEnum, srcEnum, mDNew, fLen, fInt, truth, ptruth, asB, pp1, pp2, ret1, dIs, isN, allP, frzD, mFrz, List.map_cons, List.map_nil, List.cons_append, List.nil_append, List.length_cons, List.length_nil, List.getElem?_cons_zero, List.getElem?_cons_succ, List.getElem?_nil, List.set_cons_zero, List.set_cons_succ, if_true, ite_true, Nat.reduceAdd, Nat.reduceSub, List.replicate, Bool.false_eq_true, if_false, Bool.not_true, Bool.not_false, mp_ft, mp_tf, isTy, beq_self_eq_true, isi0, isi1, isi2, isi3, isi4, isi5, isi6, isi7, isi8, isi9, isi10, isi11, isi12, isi13, isi14, isi15, isi16, isi17, isi18, isi19, isi20, isi21, isi22, isi23, isi24, isi25, isi26, isi27, isi28, isi29, isi30, isi31, isi32, isi33, isi34, isi35, isi36, isi37, isi38, isi39, isi40, isi41, onlyF, dIx_tup, dIx_lst, dIx_ref, ixAt_0, ixAt_1, ixAt_2, ixAt_3, iEq_int, iNe_int, dAdd, iAdd, iSub, iNeg, iCmp, iLe, iLt, iGe, iGt, dMul, iMulT, iMul, iMod, iDiv, gIx, setIx, decide_true, decide_false, decide_eq_true_eq, Bool.not_eq_true, List.length_map, gets_ok, gets_bind, gets_ite, rsw_ite, rsw_seq, rsw_thn, rsw_nx, rsw_ret, rst_x, rsx_seq, rsx_nx, rsx_ret, rsx_brk, rsx_cont, rsx_ite, rsx_thn, gets_fnM, onlyP, Option.map_some, Src.items, hk', zq]
  refine numbers_w hm.r1 (by omega) (by omega) hw1 fun ms w2 hml hms hw2 => ?_
  generalize hNL : (List.range m.rs.length).map (numF ms) = NL
  have hNLl : NL.length = m.rs.length := by rw [← hNL]; simp
  have mNL : ∀ x, x ∈ NL ↔ ∃ i, i < m.rs.length ∧ numF ms i = x := fun x => by rw [← hNL]; simp
  have gNL : ∀ i, i < m.rs.length → NL.getD i 0 = numF ms i := fun i hi => by rw [← hNL]; simp [hi]
  have lNL : ∀ i, i < m.rs.length → numF ms i < m.rs.length + k := fun i hi => by
    have := numF_le (ms := ms) (i := i)
    omega
  have rqk : rngOk 0 ((m.rs.length : Int) + (k : Int)) := rngOk_of (by omega) (by omega) (by omega) (by omega)
  have eqk : ((m.rs.length : Int) + (k : Int)).toNat = m.rs.length + k := by omega
  have zqk : Mp.sizeOk (m.rs.length + k) = true := sizeOk_of (by omega)
  have nNL : ∀ (x : Nat) (s : S), dNotIn (.p (eN x)) (.p (.list (NL.map eN))) s = .ok (.p (.bool (!decide (x ∈ NL)))) s := fun x s => notin_list
  simp only [mVar, mK, mBin, mUn, mTru, mTest, mAnd, mOr, mNot, mAndV, mOrV, mNotV, mIf, mNil, mCons, mTup, mLst, mLstF, mCall, mChain, mIsi, fIsi, tyD, tyP, mSlice, oNo, oSome, mSeq, srcOf, mRange1, mRange2, sNext, sSeq, sIf, sRet, sRetN, sExpr, sSet, sAsg, sAug, sFor, sRaise, gSet, gMore, gNone, Mp.gTup, mMeth, fAppend, mEnum, srcEnum, mDNew, fLen, fInt, truth, ptruth, asB, pp1, pp2, ret1, dIs, isN, allP, frzD, mFrz, List.map_cons, List.map_nil, List.cons_append, List.nil_append, List.length_cons, List.length_nil, List.getElem?_cons_zero, List.getElem?_cons_succ, List.getElem?_nil, List.set_cons_zero, List.set_cons_succ, if_true, ite_true, Nat.reduceAdd, Nat.reduceSub, List.replicate, Bool.false_eq_true, if_false, Bool.not_true, Bool.not_false, mp_ft, mp_tf, isTy, beq_self_eq_true, isi0, isi1, isi2, isi3, isi4, isi5, isi6, isi7, isi8, isi9, isi10, isi11, isi12, isi13, isi14, isi15, isi16, isi17, isi18, isi19, isi20, isi21, isi22, isi23, isi24, isi25, isi26, isi27, isi28, isi29, isi30, isi31, isi32, isi33, isi34, isi35, isi36, isi37, isi38, isi39, isi40, isi41, onlyF, dIx_tup, dIx_lst, dIx_ref, ixAt_0, ixAt_1, ixAt_2, ixAt_3, iEq_int, iNe_int, dAdd, iAdd, iSub, iNeg, iCmp, iLe, iLt, iGe, iGt, dMul, iMulT, iMul, iMod, iDiv, gIx, setIx, decide_true, decide_false, decide_eq_true_eq, Bool.not_eq_true, List.length_map, gets_ok, gets_bind, gets_ite, rsw_ite, rsw_seq, rsw_thn, rsw_nx, rsw_ret, rst_x, rsx_seq, rsx_nx, rsx_ret, rsx_brk, rsx_cont, rsx_ite, rsx_thn, gets_fnM, onlyP, Option.map_some, Src.items, mLc, rqk, eqk, rng0, List.length_range, zqk, wipeE]
  rw [lc_filter (a := fun x : Nat => D.p (eN x)) (f := fun x : Nat => D.p (eN x)) (p := fun x => !decide (x ∈ NL)) trivial (fun x _ => by simp only [pureRun, onlyP, fnM, mVar, mK, mBin, mUn, mTru, mTest, mAnd, mOr, mNot, mAndV, mOrV, mNotV, mIf, mNil, mCons, mTup, mLst, mLstF, mCall, mChain, mIsi, fIsi, tyD, tyP, mSlice, oNo, oSome, mSeq, srcOf, mRange1, mRange2, sNext, sSeq, sIf, sRet, sRetN, sExpr, sSet, sAsg, sAug, sFor, sRaise, gSet, gMore, gNone, Mp.gTup, mMeth, fAppend, mEnum, srcEnum, mDNew, fLen, fInt, truth, ptruth, asB, pp1, pp2, ret1, dIs, isN, allP, frzD, mFrz, Mp.R.bind, R.thn, RS.seq, List.map_cons, List.map_nil, List.cons_append, List.nil_append, List.length_cons, List.length_nil, List.getElem?_cons_zero, List.getElem?_cons_succ, List.getElem?_nil, List.set_cons_zero, List.set_cons_succ, if_true, ite_true, Nat.reduceAdd, Nat.reduceSub, List.replicate, Bool.false_eq_true, if_false, Bool.not_true, Bool.not_false, mp_ft, mp_tf, isTy, beq_self_eq_true, isi0, isi1, isi2, isi3, isi4, isi5, isi6, isi7, isi8, isi9, isi10, isi11, isi12, isi13, isi14, isi15, isi16, isi17, isi18, isi19, isi20, isi21, isi22, isi23, isi24, isi25, isi26, isi27, isi28, isi29, isi30, isi31, isi32, isi33, isi34, isi35, isi36, isi37, isi38, isi39, isi40, isi41, onlyF, dIx_tup, dIx_lst, dIx_ref, ixAt_0, ixAt_1, ixAt_2, ixAt_3, iEq_int, iNe_int, dAdd, iAdd, iSub, iNeg, iCmp, iLe, iLt, iGe, iGt, dMul, iMulT, iMul, iMod, iDiv, gIx, setIx, decide_true, decide_false, decide_eq_true_eq, Bool.not_eq_true, List.length_map, nNL]) (fun x _ _ => by simp only [pureRun, onlyP, fnM, mVar, mK, mBin, mUn, mTru, mTest, mAnd, mOr, mNot, mAndV, mOrV, mNotV, mIf, mNil, mCons, mTup, mLst, mLstF, mCall, mChain, mIsi, fIsi, tyD, tyP, mSlice, oNo, oSome, mSeq, srcOf, mRange1, mRange2, sNext, sSeq, sIf, sRet, sRetN, sExpr, sSet, sAsg, sAug, sFor, sRaise, gSet, gMore, gNone, Mp.gTup, mMeth, fAppend, mEnum, srcEnum, mDNew, fLen, fInt, truth, ptruth, asB, pp1, pp2, ret1, dIs, isN, allP, frzD, mFrz, Mp.R.bind, R.thn, RS.seq, List.map_cons, List.map_nil, List.cons_append, List.nil_append, List.length_cons, List.length_nil, List.getElem?_cons_zero, List.getElem?_cons_succ, List.getElem?_nil, List.set_cons_zero, List.set_cons_succ, if_true, ite_true, Nat.reduceAdd, Nat.reduceSub, List.replicate, Bool.false_eq_true, if_false, Bool.not_true, Bool.not_false, mp_ft, mp_tf, isTy, beq_self_eq_true, isi0, isi1, isi2, isi3, isi4, isi5, isi6, isi7, isi8, isi9, isi10, isi11, isi12, isi13, isi14, isi15, isi16, isi17, isi18, isi19, isi20, isi21, isi22, isi23, isi24, isi25, isi26, isi27, isi28, isi29, isi30, isi31, isi32, isi33, isi34, isi35, isi36, isi37, isi38, isi39, isi40, isi41, onlyF, dIx_tup, dIx_lst, dIx_ref, ixAt_0, ixAt_1, ixAt_2, ixAt_3, iEq_int, iNe_int, dAdd, iAdd, iSub, iNeg, iCmp, iLe, iLt, iGe, iGt, dMul, iMulT, iMul, iMod, iDiv, gIx, setIx, decide_true, decide_false, decide_eq_true_eq, Bool.not_eq_true, List.length_map])]
  generalize hFR : (List.range (m.rs.length + k)).filter (fun x => !decide (x ∈ NL)) = FR
  have mFR : ∀ x, x ∈ FR ↔ x < m.rs.length + k ∧ x ∉ NL := fun x => by rw [← hFR]; simp
  have lFR : FR.length ≤ 26 := by
    have := List.length_filter_le (fun x => !decide (x ∈ NL)) (List.range (m.rs.length + k))
    rw [hFR, List.length_range] at this
    omega
  have zFR : Mp.sizeOk FR.length = true := sizeOk_of (by omega)
  simp only [mVar, mK, mBin, mUn, mTru, mTest, mAnd, mOr, mNot, mAndV, mOrV, mNotV, mIf, mNil, mCons, mTup, mLst, mLstF, mCall, mChain, mIsi, fIsi, tyD, tyP, mSlice, oNo, oSome, mSeq, srcOf, mRange1, mRange2, sNext, sSeq, sIf, sRet, sRetN, sExpr, sSet, sAsg, sAug, sFor, sRaise, gSet, gMore, gNone, Mp.gTup, mMeth, fAppend, mEnum, srcEnum, mDNew, fLen, fInt, truth, ptruth, asB, pp1, pp2, ret1, dIs, isN, allP, frzD, mFrz, List.map_cons, List.map_nil, List.cons_append, List.nil_append, List.length_cons, List.length_nil, List.getElem?_cons_zero, List.getElem?_cons_succ, List.getElem?_nil, List.set_cons_zero, List.set_cons_succ, if_true, ite_true, Nat.reduceAdd, Nat.reduceSub, List.replicate, Bool.false_eq_true, if_false, Bool.not_true, Bool.not_false, mp_ft, mp_tf, isTy, beq_self_eq_true, isi0, isi1, isi2, isi3, isi4, isi5, isi6, isi7, isi8, isi9, isi10, isi11, isi12, isi13, isi14, isi15, isi16, isi17, isi18, isi19, isi20, isi21, isi22, isi23, isi24, isi25, isi26, isi27, isi28, isi29, isi30, isi31, isi32, isi33, isi34, isi35, isi36, isi37, isi38, isi39, isi40, isi41, onlyF, dIx_tup, dIx_lst, dIx_ref, ixAt_0, ixAt_1, ixAt_2, ixAt_3, iEq_int, iNe_int, dAdd, iAdd, iSub, iNeg, iCmp, iLe, iLt, iGe, iGt, dMul, iMulT, iMul, iMod, iDiv, gIx, setIx, decide_true, decide_false, decide_eq_true_eq, Bool.not_eq_true, List.length_map, gets_ok, gets_bind, gets_ite, rsw_ite, rsw_seq, rsw_thn, rsw_nx, rsw_ret, rst_x, rsx_seq, rsx_nx, rsx_ret, rsx_brk, rsx_cont, rsx_ite, rsx_thn, gets_fnM, onlyP, Option.map_some, Src.items, kFrz, allP_map, zFR]
  refine draw_w hw2 (by omega) (by omega) fun b w3 hb hw3 => ?_
  have eBL : cutL (FR.map eN) (some (b : Int)) none = (FR.drop b).map eN := by rw [cutL_map, cut_drop]
  generalize hBL : FR.drop b = BL at eBL
  have sBL : ∀ x, x ∈ BL → x ∈ FR := fun x hx => by rw [← hBL] at hx; exact List.mem_of_mem_drop hx
  have lBL : BL.length ≤ 26 := by
    have : BL.length ≤ FR.length := by rw [← hBL, List.length_drop]; omega
    omega
  have erep : (List.replicate ((m.rs.length : Int) + (k : Int)).toNat [D.p PyData.none]).flatten = (List.replicate (m.rs.length + k) (none : Option MRow)).map fun o => D.p (oR o) := by
    rw [eqk]
    generalize m.rs.length + k = z
    induction z with
    | zero => rfl
    | succ z ih => simp only [List.replicate_succ, List.flatten_cons, ih, List.map_cons, oR]; rfl
  have hrep : 0 ≤ (m.rs.length : Int) + (k : Int) ∧ (m.rs.length : Int) + (k : Int) ≤ 1000000 ∧ Mp.sizeOk (1 * ((m.rs.length : Int) + (k : Int)).toNat) = true := ⟨by omega, by omega, by rw [eqk, Nat.one_mul]; exact zqk⟩
  have rq : rngOk 0 (m.rs.length : Int) := rngOk_of (by omega) (by omega) (by omega) (by omega)
  simp only [mVar, mK, mBin, mUn, mTru, mTest, mAnd, mOr, mNot, mAndV, mOrV, mNotV, mIf, mNil, mCons, mTup, mLst, mLstF, mCall, mChain, mIsi, fIsi, tyD, tyP, mSlice, oNo, oSome, mSeq, srcOf, mRange1, mRange2, sNext, sSeq, sIf, sRet, sRetN, sExpr, sSet, sAsg, sAug, sFor, sRaise, gSet, gMore, gNone, Mp.gTup, mMeth, fAppend, mEnum, srcEnum, mDNew, fLen, fInt, truth, ptruth, asB, pp1, pp2, ret1, dIs, isN, allP, frzD, mFrz, List.map_cons, List.map_nil, List.cons_append, List.nil_append, List.length_cons, List.length_nil, List.getElem?_cons_zero, List.getElem?_cons_succ, List.getElem?_nil, List.set_cons_zero, List.set_cons_succ, if_true, ite_true, Nat.reduceAdd, Nat.reduceSub, List.replicate, Bool.false_eq_true, if_false, Bool.not_true, Bool.not_false, mp_ft, mp_tf, isTy, beq_self_eq_true, isi0, isi1, isi2, isi3, isi4, isi5, isi6, isi7, isi8, isi9, isi10, isi11, isi12, isi13, isi14, isi15, isi16, isi17, isi18, isi19, isi20, isi21, isi22, isi23, isi24, isi25, isi26, isi27, isi28, isi29, isi30, isi31, isi32, isi33, isi34, isi35, isi36, isi37, isi38, isi39, isi40, isi41, onlyF, dIx_tup, dIx_lst, dIx_ref, ixAt_0, ixAt_1, ixAt_2, ixAt_3, iEq_int, iNe_int, dAdd, iAdd, iSub, iNeg, iCmp, iLe, iLt, iGe, iGt, dMul, iMulT, iMul, iMod, iDiv, gIx, setIx, decide_true, decide_false, decide_eq_true_eq, Bool.not_eq_true, List.length_map, gets_ok, gets_bind, gets_ite, rsw_ite, rsw_seq, rsw_thn, rsw_nx, rsw_ret, rst_x, rsx_seq, rsx_nx, rsx_ret, rsx_brk, rsx_cont, rsx_ite, rsx_thn, gets_fnM, onlyP, Option.map_some, Src.items, fSlice, eBL, newLst, z1, dRep, kNew, hrep, erep, rq, Int.toNat_natCast]
  simp only [and_self, if_true]
  let Gd1 : Nat → MRow → Prop := fun j r => r.Ok m.n (m.rs.length + k) ∧ r.fin = (m.row j).fin ∧ ∀ c, c < m.n → r.st c = ((m.row j).st c).map (fun p => (p.1, numF ms p.2)) ∨ ((m.row j).st c = none ∧ ∃ p, r.st c = some p ∧ p.2 ∈ BL)
  let Gd2 : Nat → MRow → Prop := fun x r => r.Ok m.n (m.rs.length + k) ∧ (x ∈ BL → r.fin = none ∧ ∀ c p, r.st c = some p → p.2 ∈ BL)
  have lt_of : ∀ {x}, x ∈ BL → x < m.rs.length + k := fun {x} hx => ((mFR x).mp (sBL x hx)).1
  refine for_gets (J := fun xs e s' => ∃ (i : Nat) (fs : List (Option MRow)) (e7 e10 : Option D) (w' : GH), i ≤ m.rs.length ∧ xs = ((List.range m.rs.length).drop i).map (fun k => D.p (eN k)) ∧ WA w' ∧ fs.length = m.rs.length + k ∧ (∀ j, j < i → ∃ r, fs[numF ms j]? = some (some r) ∧ Gd1 j r) ∧
    s' = ⟨[some (.lst [D.p .none]), some (.lst (fs.map fun o => D.p (oR o)))], w'⟩ ∧ e = [some (D.well 0), some (D.p (.tuple [.int m.n, .tuple (m.rs.map eR)])), some (D.p (.int m.n)), some (D.p (.tuple (m.rs.map eR))), some (D.p (.int k)), some (D.p (.list (NL.map eN))), some (D.p (.list (FR.map eN))), e7, some (D.p (.list (BL.map eN))), some (D.ref 1), e10, none, none, none, none]) (fun _ _ _ _ => trivial) ?_ ?_ _ _ _ ⟨0, _, _, _, w3, Nat.zero_le _, by simp, hw3, by simp, fun j hj => by omega, rfl, rfl⟩
  · rintro x xs e s' ⟨i, fs, e7, e10, w', hi, hx, hw', hfl, hfs, rfl, rfl⟩
    have hi' : i < m.rs.length := by
      rcases Nat.lt_or_ge i m.rs.length with h | h
      · exact h
      · rw [List.drop_eq_nil_of_le (by simpa using h)] at hx
        cases hx
    rw [List.drop_eq_getElem_cons (by simpa using hi')] at hx
    simp only [List.map_cons, List.getElem_range, List.cons.injEq] at hx
    obtain ⟨rfl, rfl⟩ := hx
    have hrow := hm.row hi'
    have zs : Mp.sizeOk (m.row i).ss.length = true := sizeOk_of (by rw [hrow.len]; omega)
    simp only [mVar, mK, mBin, mUn, mTru, mTest, mAnd, mOr, mNot, mAndV, mOrV, mNotV, mIf, mNil, mCons, mTup, mLst, mLstF, mCall, mChain, mIsi, fIsi, tyD, tyP, mSlice, oNo, oSome, mSeq, srcOf, mRange1, mRange2, sNext, sSeq, sIf, sRet, sRetN, sExpr, sSet, sAsg, sAug, sFor, sRaise, gSet, gMore, gNone, Mp.gTup, mMeth, fAppend, mEnum, srcEnum, mDNew, fLen, fInt, truth, ptruth, asB, pp1, pp2, ret1, dIs, isN, allP, frzD, mFrz, List.map_cons, List.map_nil, List.cons_append, List.nil_append, List.length_cons, List.length_nil, List.getElem?_cons_zero, List.getElem?_cons_succ, List.getElem?_nil, List.set_cons_zero, List.set_cons_succ, if_true, ite_true, Nat.reduceAdd, Nat.reduceSub, List.replicate, Bool.false_eq_true, if_false, Bool.not_true, Bool.not_false, mp_ft, mp_tf, isTy, beq_self_eq_true, isi0, isi1, isi2, isi3, isi4, isi5, isi6, isi7, isi8, isi9, isi10, isi11, isi12, isi13, isi14, isi15, isi16, isi17, isi18, isi19, isi20, isi21, isi22, isi23, isi24, isi25, isi26, isi27, isi28, isi29, isi30, isi31, isi32, isi33, isi34, isi35, isi36, isi37, isi38, isi39, isi40, isi41, onlyF, dIx_tup, dIx_lst, dIx_ref, ixAt_0, ixAt_1, ixAt_2, ixAt_3, iEq_int, iNe_int, dAdd, iAdd, iSub, iNeg, iCmp, iLe, iLt, iGe, iGt, dMul, iMulT, iMul, iMod, iDiv, gIx, setIx, decide_true, decide_false, decide_eq_true_eq, Bool.not_eq_true, List.length_map, gets_ok, gets_bind, gets_ite, rsw_ite, rsw_seq, rsw_thn, rsw_nx, rsw_ret, rst_x, rsx_seq, rsx_nx, rsx_ret, rsx_brk, rsx_cont, rsx_ite, rsx_thn, gets_fnM, onlyP, Option.map_some, Src.items, eN, ix_rs hi', ix_R0, ix_R1, mLc, wipeE, zs, map_map]
    rw [lc_map (f := fun st => D.p (eS (mvS NL st))) trivial (fun st hst => by
      have := moved_eq (st := st) (ns := NL) (s := ⟨[some (.lst [D.p .none]), some (.lst (fs.map fun o => D.p (oR o)))], w'⟩) (fun p e => by
        subst e
        rw [hNLl]
        exact (hrow.ss _ hst p rfl).2)
      simp only [pureRun, onlyP, fnM, mVar, mK, mBin, mUn, mTru, mTest, mAnd, mOr, mNot, mAndV, mOrV, mNotV, mIf, mNil, mCons, mTup, mLst, mLstF, mCall, mChain, mIsi, fIsi, tyD, tyP, mSlice, oNo, oSome, mSeq, srcOf, mRange1, mRange2, sNext, sSeq, sIf, sRet, sRetN, sExpr, sSet, sAsg, sAug, sFor, sRaise, gSet, gMore, gNone, Mp.gTup, mMeth, fAppend, mEnum, srcEnum, mDNew, fLen, fInt, truth, ptruth, asB, pp1, pp2, ret1, dIs, isN, allP, frzD, mFrz, Mp.R.bind, R.thn, RS.seq, List.map_cons, List.map_nil, List.cons_append, List.nil_append, List.length_cons, List.length_nil, List.getElem?_cons_zero, List.getElem?_cons_succ, List.getElem?_nil, List.set_cons_zero, List.set_cons_succ, if_true, ite_true, Nat.reduceAdd, Nat.reduceSub, List.replicate, Bool.false_eq_true, if_false, Bool.not_true, Bool.not_false, mp_ft, mp_tf, isTy, beq_self_eq_true, isi0, isi1, isi2, isi3, isi4, isi5, isi6, isi7, isi8, isi9, isi10, isi11, isi12, isi13, isi14, isi15, isi16, isi17, isi18, isi19, isi20, isi21, isi22, isi23, isi24, isi25, isi26, isi27, isi28, isi29, isi30, isi31, isi32, isi33, isi34, isi35, isi36, isi37, isi38, isi39, isi40, isi41, onlyF, dIx_tup, dIx_lst, dIx_ref, ixAt_0, ixAt_1, ixAt_2, ixAt_3, iEq_int, iNe_int, dAdd, iAdd, iSub, iNeg, iCmp, iLe, iLt, iGe, iGt, dMul, iMulT, iMul, iMod, iDiv, gIx, setIx, decide_true, decide_false, decide_eq_true_eq, Bool.not_eq_true, List.length_map]
      exact this)]
    simp only [mVar, mK, mBin, mUn, mTru, mTest, mAnd, mOr, mNot, mAndV, mOrV, mNotV, mIf, mNil, mCons, mTup, mLst, mLstF, mCall, mChain, mIsi, fIsi, tyD, tyP, mSlice, oNo, oSome, mSeq, srcOf, mRange1, mRange2, sNext, sSeq, sIf, sRet, sRetN, sExpr, sSet, sAsg, sAug, sFor, sRaise, gSet, gMore, gNone, Mp.gTup, mMeth, fAppend, mEnum, srcEnum, mDNew, fLen, fInt, truth, ptruth, asB, pp1, pp2, ret1, dIs, isN, allP, frzD, mFrz, List.map_cons, List.map_nil, List.cons_append, List.nil_append, List.length_cons, List.length_nil, List.getElem?_cons_zero, List.getElem?_cons_succ, List.getElem?_nil, List.set_cons_zero, List.set_cons_succ, if_true, ite_true, Nat.reduceAdd, Nat.reduceSub, List.replicate, Bool.false_eq_true, if_false, Bool.not_true, Bool.not_false, mp_ft, mp_tf, isTy, beq_self_eq_true, isi0, isi1, isi2, isi3, isi4, isi5, isi6, isi7, isi8, isi9, isi10, isi11, isi12, isi13, isi14, isi15, isi16, isi17, isi18, isi19, isi20, isi21, isi22, isi23, isi24, isi25, isi26, isi27, isi28, isi29, isi30, isi31, isi32, isi33, isi34, isi35, isi36, isi37, isi38, isi39, isi40, isi41, onlyF, dIx_tup, dIx_lst, dIx_ref, ixAt_0, ixAt_1, ixAt_2, ixAt_3, iEq_int, iNe_int, dAdd, iAdd, iSub, iNeg, iCmp, iLe, iLt, iGe, iGt, dMul, iMulT, iMul, iMod, iDiv, gIx, setIx, decide_true, decide_false, decide_eq_true_eq, Bool.not_eq_true, List.length_map, gets_ok, gets_bind, gets_ite, rsw_ite, rsw_seq, rsw_thn, rsw_nx, rsw_ret, rst_x, rsx_seq, rsx_nx, rsx_ret, rsx_brk, rsx_cont, rsx_ite, rsx_thn, gets_fnM, onlyP, Option.map_some, Src.items, kFrz, allP_map, map_map, zs]
    refine lc_rel (b := fun st => D.p (eS (mvS NL st))) (f := eS) (P := fun st st' => st' = mvS NL st ∨ mvS NL st = none ∧ ∃ c b, st' = some (c, b) ∧ c ≤ 60 ∧ b ∈ BL) (I := fun s => s.g = [some (.lst [D.p .none]), some (.lst (fs.map fun o => D.p (oR o)))] ∧ WA s.w) (fun _ _ => trivial) ?_ ⟨rfl, hw'⟩ ?_
    · rintro st hst ⟨g', w4⟩ ⟨rfl, hw4⟩
      simp only [mVar, mK, mBin, mUn, mTru, mTest, mAnd, mOr, mNot, mAndV, mOrV, mNotV, mIf, mNil, mCons, mTup, mLst, mLstF, mCall, mChain, mIsi, fIsi, tyD, tyP, mSlice, oNo, oSome, mSeq, srcOf, mRange1, mRange2, sNext, sSeq, sIf, sRet, sRetN, sExpr, sSet, sAsg, sAug, sFor, sRaise, gSet, gMore, gNone, Mp.gTup, mMeth, fAppend, mEnum, srcEnum, mDNew, fLen, fInt, truth, ptruth, asB, pp1, pp2, ret1, dIs, isN, allP, frzD, mFrz, List.map_cons, List.map_nil, List.cons_append, List.nil_append, List.length_cons, List.length_nil, List.getElem?_cons_zero, List.getElem?_cons_succ, List.getElem?_nil, List.set_cons_zero, List.set_cons_succ, if_true, ite_true, Nat.reduceAdd, Nat.reduceSub, List.replicate, Bool.false_eq_true, if_false, Bool.not_true, Bool.not_false, mp_ft, mp_tf, isTy, beq_self_eq_true, isi0, isi1, isi2, isi3, isi4, isi5, isi6, isi7, isi8, isi9, isi10, isi11, isi12, isi13, isi14, isi15, isi16, isi17, isi18, isi19, isi20, isi21, isi22, isi23, isi24, isi25, isi26, isi27, isi28, isi29, isi30, isi31, isi32, isi33, isi34, isi35, isi36, isi37, isi38, isi39, isi40, isi41, onlyF, dIx_tup, dIx_lst, dIx_ref, ixAt_0, ixAt_1, ixAt_2, ixAt_3, iEq_int, iNe_int, dAdd, iAdd, iSub, iNeg, iCmp, iLe, iLt, iGe, iGt, dMul, iMulT, iMul, iMod, iDiv, gIx, setIx, decide_true, decide_false, decide_eq_true_eq, Bool.not_eq_true, List.length_map, gets_ok, gets_bind, gets_ite, rsw_ite, rsw_seq, rsw_thn, rsw_nx, rsw_ret, rst_x, rsx_seq, rsx_nx, rsx_ret, rsx_brk, rsx_cont, rsx_ite, rsx_thn, gets_fnM, onlyP, Option.map_some, Src.items]
      exact into_w (by omega) hw4 fun st' w5 h5 hw5 => ⟨⟨rfl, hw5⟩, st', h5, rfl⟩
    · rintro as ⟨g', w4⟩ hla has ⟨rfl, hw4⟩
      have eix : ixAt (NL.map eN) (i : Int) = some (.int (numF ms i : Nat)) := by
        rw [ixAt_nat (by simpa [hNLl] using hi')]
        have := gNL i hi'
        rw [List.getD_eq_getElem?_getD, List.getElem?_eq_getElem (by omega)] at this
        simp only [Option.getD_some] at this
        simp [eN, this]
      have hlt := lNL i hi'
      have eixn : ixN fs.length ((numF ms i : Nat) : Int) = some (numF ms i) := ixN_nat (by omega)
      simp only [mVar, mK, mBin, mUn, mTru, mTest, mAnd, mOr, mNot, mAndV, mOrV, mNotV, mIf, mNil, mCons, mTup, mLst, mLstF, mCall, mChain, mIsi, fIsi, tyD, tyP, mSlice, oNo, oSome, mSeq, srcOf, mRange1, mRange2, sNext, sSeq, sIf, sRet, sRetN, sExpr, sSet, sAsg, sAug, sFor, sRaise, gSet, gMore, gNone, Mp.gTup, mMeth, fAppend, mEnum, srcEnum, mDNew, fLen, fInt, truth, ptruth, asB, pp1, pp2, ret1, dIs, isN, allP, frzD, mFrz, List.map_cons, List.map_nil, List.cons_append, List.nil_append, List.length_cons, List.length_nil, List.getElem?_cons_zero, List.getElem?_cons_succ, List.getElem?_nil, List.set_cons_zero, List.set_cons_succ, if_true, ite_true, Nat.reduceAdd, Nat.reduceSub, List.replicate, Bool.false_eq_true, if_false, Bool.not_true, Bool.not_false, mp_ft, mp_tf, isTy, beq_self_eq_true, isi0, isi1, isi2, isi3, isi4, isi5, isi6, isi7, isi8, isi9, isi10, isi11, isi12, isi13, isi14, isi15, isi16, isi17, isi18, isi19, isi20, isi21, isi22, isi23, isi24, isi25, isi26, isi27, isi28, isi29, isi30, isi31, isi32, isi33, isi34, isi35, isi36, isi37, isi38, isi39, isi40, isi41, onlyF, dIx_tup, dIx_lst, dIx_ref, ixAt_0, ixAt_1, ixAt_2, ixAt_3, iEq_int, iNe_int, dAdd, iAdd, iSub, iNeg, iCmp, iLe, iLt, iGe, iGt, dMul, iMulT, iMul, iMod, iDiv, gIx, setIx, decide_true, decide_false, decide_eq_true_eq, Bool.not_eq_true, List.length_map, gets_ok, gets_bind, gets_ite, rsw_ite, rsw_seq, rsw_thn, rsw_nx, rsw_ret, rst_x, rsx_seq, rsx_nx, rsx_ret, rsx_brk, rsx_cont, rsx_ite, rsx_thn, gets_fnM, onlyP, Option.map_some, Src.items, allP_map, fTuple, lstP, z2, eix, List.length_map, eixn]
      refine ⟨i + 1, fs.set (numF ms i) (some ⟨(m.row i).fin, as⟩), _, _, w4, hi', rfl, hw4, by simpa using hfl, ?_, ?_, rfl⟩
      · intro j hj
        by_cases e : j = i
        · subst e
          refine ⟨⟨(m.row j).fin, as⟩, by rw [List.getElem?_set_self (by omega)], ⟨by rw [hla]; exact hrow.len, hrow.fin, ?_⟩, rfl, ?_⟩
          · intro s hs p e
            obtain ⟨c, hc, e1⟩ := List.mem_iff_getElem.mp hs
            have hc' : c < (m.row j).ss.length := by have : c < as.length := hc; omega
            have hok := hrow.ss _ (List.getElem_mem hc')
            rcases has c _ _ (List.getElem?_eq_getElem hc') (List.getElem?_eq_getElem hc) with h1 | ⟨_, c', b', h1, h2, h3⟩
            · rw [e1, e] at h1
              cases hs2 : (m.row j).ss[c] with
              | none => rw [hs2] at h1; cases h1
              | some p2 =>
                rw [hs2] at h1 hok
                have := hok p2 rfl
                cases h1
                refine ⟨this.1, ?_⟩
                show NL.getD p2.2 0 < _
                rw [gNL _ this.2]
                exact lNL _ this.2
            · rw [e1, e] at h1
              cases h1
              exact ⟨h2, lt_of h3⟩
          · intro c hc
            have hc' : c < (m.row j).ss.length := by rw [hrow.len]; exact hc
            have hc2 : c < as.length := by omega
            have hok := hrow.ss _ (List.getElem_mem hc')
            rw [← MRow.st_eq hc']
            show (as[c]?.getD none) = _ ∨ _ ∧ ∃ p, (as[c]?.getD none) = _ ∧ _
            rw [List.getElem?_eq_getElem hc2, Option.getD_some]
            rcases has c _ _ (List.getElem?_eq_getElem hc') (List.getElem?_eq_getElem hc2) with h1 | ⟨h0, c', b', h1, h2, h3⟩
            · left
              rw [h1]
              cases hs2 : (m.row j).ss[c] with
              | none => rfl
              | some p2 =>
                rw [hs2] at hok
                simp only [mvS, Option.map_some, gNL _ (hok p2 rfl).2]
            · right
              refine ⟨?_, _, h1, h3⟩
              revert h0
              cases (m.row j).ss[c] with
              | none => exact fun _ => rfl
              | some p2 => exact fun z => by cases z
        · obtain ⟨r, e1, g1⟩ := hfs j (by omega)
          refine ⟨r, ?_, g1⟩
          rw [List.getElem?_set_ne]
          · exact e1
          · have : j < i := by omega
            have := numF_mono (ms := ms) this
            omega
      · simp [oR, eR, List.map_set]
  · rintro e s' ⟨i, fs, e7, e10, w', hi, hx, hw', hfl, hfs, rfl, rfl⟩
    have hiq : i = m.rs.length := by
      have := congrArg List.length hx
      simp at this
      omega
    subst hiq
    simp only [mVar, mK, mBin, mUn, mTru, mTest, mAnd, mOr, mNot, mAndV, mOrV, mNotV, mIf, mNil, mCons, mTup, mLst, mLstF, mCall, mChain, mIsi, fIsi, tyD, tyP, mSlice, oNo, oSome, mSeq, srcOf, mRange1, mRange2, sNext, sSeq, sIf, sRet, sRetN, sExpr, sSet, sAsg, sAug, sFor, sRaise, gSet, gMore, gNone, Mp.gTup, mMeth, fAppend, mEnum, srcEnum, mDNew, fLen, fInt, truth, ptruth, asB, pp1, pp2, ret1, dIs, isN, allP, frzD, mFrz, List.map_cons, List.map_nil, List.cons_append, List.nil_append, List.length_cons, List.length_nil, List.getElem?_cons_zero, List.getElem?_cons_succ, List.getElem?_nil, List.set_cons_zero, List.set_cons_succ, if_true, ite_true, Nat.reduceAdd, Nat.reduceSub, List.replicate, Bool.false_eq_true, if_false, Bool.not_true, Bool.not_false, mp_ft, mp_tf, isTy, beq_self_eq_true, isi0, isi1, isi2, isi3, isi4, isi5, isi6, isi7, isi8, isi9, isi10, isi11, isi12, isi13, isi14, isi15, isi16, isi17, isi18, isi19, isi20, isi21, isi22, isi23, isi24, isi25, isi26, isi27, isi28, isi29, isi30, isi31, isi32, isi33, isi34, isi35, isi36, isi37, isi38, isi39, isi40, isi41, onlyF, dIx_tup, dIx_lst, dIx_ref, ixAt_0, ixAt_1, ixAt_2, ixAt_3, iEq_int, iNe_int, dAdd, iAdd, iSub, iNeg, iCmp, iLe, iLt, iGe, iGt, dMul, iMulT, iMul, iMod, iDiv, gIx, setIx, decide_true, decide_false, decide_eq_true_eq, Bool.not_eq_true, List.length_map, gets_ok, gets_bind, gets_ite, rsw_ite, rsw_seq, rsw_thn, rsw_nx, rsw_ret, rst_x, rsx_seq, rsx_nx, rsx_ret, rsx_brk, rsx_cont, rsx_ite, rsx_thn, gets_fnM, onlyP, Option.map_some, Src.items, map_map]
    refine for_gets (J := fun xs e s' => ∃ (r1 r2 : List Nat) (fs : List (Option MRow)) (e7 e10 e12 e14 : Option D) (w' : GH), xs = r1.map (fun k => D.p (eN k)) ∧ r2 ++ r1 = FR ∧ WA w' ∧ fs.length = m.rs.length + k ∧ (∀ j, j < m.rs.length → ∃ r, fs[numF ms j]? = some (some r) ∧ Gd1 j r) ∧ (∀ x ∈ r2, ∃ r, fs[x]? = some (some r) ∧ Gd2 x r) ∧
      s' = ⟨[some (.lst [D.p .none]), some (.lst (fs.map fun o => D.p (oR o)))], w'⟩ ∧ e = [some (D.well 0), some (D.p (.tuple [.int m.n, .tuple (m.rs.map eR)])), some (D.p (.int m.n)), some (D.p (.tuple (m.rs.map eR))), some (D.p (.int k)), some (D.p (.list (NL.map eN))), some (D.p (.list (FR.map eN))), e7, some (D.p (.list (BL.map eN))), some (D.ref 1), e10, none, e12, none, e14]) (fun _ _ _ _ => trivial) ?_ ?_ _ _ _ ⟨FR, [], fs, _, _, _, _, w', rfl, rfl, hw', hfl, hfs, by simp, rfl, rfl⟩
    · rintro x xs e s' ⟨r1, r2, fs, e7, e10, e12, e14, w', hx, hr, hw', hfl, hfs, hfs2, rfl, rfl⟩
      cases r1 with
      | nil => cases hx
      | cons x r1 =>
        cases hx
        have hxF : x ∈ FR := by rw [← hr]; simp
        have hxq := ((mFR x).mp hxF).1
        have nBL : ∀ (s : S), dNotIn (.p (eN x)) (.p (.list (BL.map eN))) s = .ok (.p (.bool (!decide (x ∈ BL)))) s := fun s => notin_list
        have zc : Mp.sizeOk (NL.length + FR.length) = true := sizeOk_of (by omega)
        obtain ⟨TH, hTH, lTH, sTH, bTH, eTH⟩ : ∃ TH : List Nat, 0 < TH.length ∧ TH.length ≤ 100 ∧ (∀ y ∈ TH, y < m.rs.length + k) ∧ (x ∈ BL → TH = BL) ∧ ixAt [PyData.list (BL.map eN), .list (NL.map eN ++ FR.map eN)] (if (!decide (x ∈ BL)) = true then 1 else 0) = some (.list (TH.map eN)) := by
          by_cases hb : x ∈ BL
          · exact ⟨BL, List.length_pos_of_mem hb, by omega, fun y hy => lt_of hy, fun _ => rfl, by simp [hb, ixAt_0]⟩
          · refine ⟨NL ++ FR, by rw [List.length_append]; have := List.length_pos_of_mem hxF; omega, by rw [List.length_append]; omega, fun y hy => ?_, fun z => absurd z hb, by simp [hb, ixAt_1]⟩
            rcases List.mem_append.mp hy with hy | hy
            · obtain ⟨j, hj, rfl⟩ := (mNL y).mp hy
              exact lNL j hj
            · exact ((mFR y).mp hy).1
        have rn : rngOk 0 (m.n : Int) := rngOk_of (by omega) (by omega) (by omega) (by omega)
        have zn : Mp.sizeOk (rngItems 0 (m.n : Int).toNat).length = true := by rw [rng_len]; exact sizeOk_of (by omega)
        have zT : Mp.sizeOk TH.length = true := sizeOk_of (by omega)
        simp only [mVar, mK, mBin, mUn, mTru, mTest, mAnd, mOr, mNot, mAndV, mOrV, mNotV, mIf, mNil, mCons, mTup, mLst, mLstF, mCall, mChain, mIsi, fIsi, tyD, tyP, mSlice, oNo, oSome, mSeq, srcOf, mRange1, mRange2, sNext, sSeq, sIf, sRet, sRetN, sExpr, sSet, sAsg, sAug, sFor, sRaise, gSet, gMore, gNone, Mp.gTup, mMeth, fAppend, mEnum, srcEnum, mDNew, fLen, fInt, truth, ptruth, asB, pp1, pp2, ret1, dIs, isN, allP, frzD, mFrz, List.map_cons, List.map_nil, List.cons_append, List.nil_append, List.length_cons, List.length_nil, List.getElem?_cons_zero, List.getElem?_cons_succ, List.getElem?_nil, List.set_cons_zero, List.set_cons_succ, if_true, ite_true, Nat.reduceAdd, Nat.reduceSub, List.replicate, Bool.false_eq_true, if_false, Bool.not_true, Bool.not_false, mp_ft, mp_tf, isTy, beq_self_eq_true, isi0, isi1, isi2, isi3, isi4, isi5, isi6, isi7, isi8, isi9, isi10, isi11, isi12, isi13, isi14, isi15, isi16, isi17, isi18, isi19, isi20, isi21, isi22, isi23, isi24, isi25, isi26, isi27, isi28, isi29, isi30, isi31, isi32, isi33, isi34, isi35, isi36, isi37, isi38, isi39, isi40, isi41, onlyF, dIx_tup, dIx_lst, dIx_ref, ixAt_0, ixAt_1, ixAt_2, ixAt_3, iEq_int, iNe_int, dAdd, iAdd, iSub, iNeg, iCmp, iLe, iLt, iGe, iGt, dMul, iMulT, iMul, iMod, iDiv, gIx, setIx, decide_true, decide_false, decide_eq_true_eq, Bool.not_eq_true, List.length_map, gets_ok, gets_bind, gets_ite, rsw_ite, rsw_seq, rsw_thn, rsw_nx, rsw_ret, rst_x, rsx_seq, rsx_nx, rsx_ret, rsx_brk, rsx_cont, rsx_ite, rsx_thn, gets_fnM, onlyP, Option.map_some, Src.items, nBL, dCatF, lstP, zc, eTH, fInt, z2, mLc, rn, zn, wipeE, List.length_map]
        refine lc_typed (I := fun s => s.g = [some (.lst [D.p .none]), some (.lst (fs.map fun o => D.p (oR o)))] ∧ WA s.w) (P := fun p : Nat × Nat => p.1 ≤ 60 ∧ p.2 ∈ TH) (f := fun p => eS (some p)) (fun _ _ => trivial) ?_ ⟨rfl, hw'⟩ ?_
        · rintro y hy ⟨g', w4⟩ ⟨rfl, hw4⟩
          simp only [mVar, mK, mBin, mUn, mTru, mTest, mAnd, mOr, mNot, mAndV, mOrV, mNotV, mIf, mNil, mCons, mTup, mLst, mLstF, mCall, mChain, mIsi, fIsi, tyD, tyP, mSlice, oNo, oSome, mSeq, srcOf, mRange1, mRange2, sNext, sSeq, sIf, sRet, sRetN, sExpr, sSet, sAsg, sAug, sFor, sRaise, gSet, gMore, gNone, Mp.gTup, mMeth, fAppend, mEnum, srcEnum, mDNew, fLen, fInt, truth, ptruth, asB, pp1, pp2, ret1, dIs, isN, allP, frzD, mFrz, List.map_cons, List.map_nil, List.cons_append, List.nil_append, List.length_cons, List.length_nil, List.getElem?_cons_zero, List.getElem?_cons_succ, List.getElem?_nil, List.set_cons_zero, List.set_cons_succ, if_true, ite_true, Nat.reduceAdd, Nat.reduceSub, List.replicate, Bool.false_eq_true, if_false, Bool.not_true, Bool.not_false, mp_ft, mp_tf, isTy, beq_self_eq_true, isi0, isi1, isi2, isi3, isi4, isi5, isi6, isi7, isi8, isi9, isi10, isi11, isi12, isi13, isi14, isi15, isi16, isi17, isi18, isi19, isi20, isi21, isi22, isi23, isi24, isi25, isi26, isi27, isi28, isi29, isi30, isi31, isi32, isi33, isi34, isi35, isi36, isi37, isi38, isi39, isi40, isi41, onlyF, dIx_tup, dIx_lst, dIx_ref, ixAt_0, ixAt_1, ixAt_2, ixAt_3, iEq_int, iNe_int, dAdd, iAdd, iSub, iNeg, iCmp, iLe, iLt, iGe, iGt, dMul, iMulT, iMul, iMod, iDiv, gIx, setIx, decide_true, decide_false, decide_eq_true_eq, Bool.not_eq_true, List.length_map, gets_ok, gets_bind, gets_ite, rsw_ite, rsw_seq, rsw_thn, rsw_nx, rsw_ret, rst_x, rsx_seq, rsx_nx, rsx_ret, rsx_brk, rsx_cont, rsx_ite, rsx_thn, gets_fnM, onlyP, Option.map_some, Src.items, zT]
          refine more_w hw4 fun c w5 hc hw5 => ?_
          try simp only [mVar, mK, mBin, mUn, mTru, mTest, mAnd, mOr, mNot, mAndV, mOrV, mNotV, mIf, mNil, mCons, mTup, mLst, mLstF, mCall, mChain, mIsi, fIsi, tyD, tyP, mSlice, oNo, oSome, mSeq, srcOf, mRange1, mRange2, sNext, sSeq, sIf, sRet, sRetN, sExpr, sSet, sAsg, sAug, sFor, sRaise, gSet, gMore, gNone, Mp.gTup, mMeth, fAppend, mEnum, srcEnum, mDNew, fLen, fInt, truth, ptruth, asB, pp1, pp2, ret1, dIs, isN, allP, frzD, mFrz, List.map_cons, List.map_nil, List.cons_append, List.nil_append, List.length_cons, List.length_nil, List.getElem?_cons_zero, List.getElem?_cons_succ, List.getElem?_nil, List.set_cons_zero, List.set_cons_succ, if_true, ite_true, Nat.reduceAdd, Nat.reduceSub, List.replicate, Bool.false_eq_true, if_false, Bool.not_true, Bool.not_false, mp_ft, mp_tf, isTy, beq_self_eq_true, isi0, isi1, isi2, isi3, isi4, isi5, isi6, isi7, isi8, isi9, isi10, isi11, isi12, isi13, isi14, isi15, isi16, isi17, isi18, isi19, isi20, isi21, isi22, isi23, isi24, isi25, isi26, isi27, isi28, isi29, isi30, isi31, isi32, isi33, isi34, isi35, isi36, isi37, isi38, isi39, isi40, isi41, onlyF, dIx_tup, dIx_lst, dIx_ref, ixAt_0, ixAt_1, ixAt_2, ixAt_3, iEq_int, iNe_int, dAdd, iAdd, iSub, iNeg, iCmp, iLe, iLt, iGe, iGt, dMul, iMulT, iMul, iMod, iDiv, gIx, setIx, decide_true, decide_false, decide_eq_true_eq, Bool.not_eq_true, List.length_map, gets_ok, gets_bind, gets_ite, rsw_ite, rsw_seq, rsw_thn, rsw_nx, rsw_ret, rst_x, rsx_seq, rsx_nx, rsx_ret, rsx_brk, rsx_cont, rsx_ite, rsx_thn, gets_fnM, onlyP, Option.map_some, Src.items, zT]
          refine draw_w hw5 (by omega) (by omega) fun b w6 hb hw6 => ?_
          have hb' : b < TH.length := by omega
          have e : ixAt (TH.map eN) (b : Int) = some (eN TH[b]) := by
            rw [ixAt_nat (by simpa using hb')]
            simp
          simp only [mVar, mK, mBin, mUn, mTru, mTest, mAnd, mOr, mNot, mAndV, mOrV, mNotV, mIf, mNil, mCons, mTup, mLst, mLstF, mCall, mChain, mIsi, fIsi, tyD, tyP, mSlice, oNo, oSome, mSeq, srcOf, mRange1, mRange2, sNext, sSeq, sIf, sRet, sRetN, sExpr, sSet, sAsg, sAug, sFor, sRaise, gSet, gMore, gNone, Mp.gTup, mMeth, fAppend, mEnum, srcEnum, mDNew, fLen, fInt, truth, ptruth, asB, pp1, pp2, ret1, dIs, isN, allP, frzD, mFrz, List.map_cons, List.map_nil, List.cons_append, List.nil_append, List.length_cons, List.length_nil, List.getElem?_cons_zero, List.getElem?_cons_succ, List.getElem?_nil, List.set_cons_zero, List.set_cons_succ, if_true, ite_true, Nat.reduceAdd, Nat.reduceSub, List.replicate, Bool.false_eq_true, if_false, Bool.not_true, Bool.not_false, mp_ft, mp_tf, isTy, beq_self_eq_true, isi0, isi1, isi2, isi3, isi4, isi5, isi6, isi7, isi8, isi9, isi10, isi11, isi12, isi13, isi14, isi15, isi16, isi17, isi18, isi19, isi20, isi21, isi22, isi23, isi24, isi25, isi26, isi27, isi28, isi29, isi30, isi31, isi32, isi33, isi34, isi35, isi36, isi37, isi38, isi39, isi40, isi41, onlyF, dIx_tup, dIx_lst, dIx_ref, ixAt_0, ixAt_1, ixAt_2, ixAt_3, iEq_int, iNe_int, dAdd, iAdd, iSub, iNeg, iCmp, iLe, iLt, iGe, iGt, dMul, iMulT, iMul, iMod, iDiv, gIx, setIx, decide_true, decide_false, decide_eq_true_eq, Bool.not_eq_true, List.length_map, gets_ok, gets_bind, gets_ite, rsw_ite, rsw_seq, rsw_thn, rsw_nx, rsw_ret, rst_x, rsx_seq, rsx_nx, rsx_ret, rsx_brk, rsx_cont, rsx_ite, rsx_thn, gets_fnM, onlyP, Option.map_some, Src.items, e, z2]
          exact ⟨⟨trivial, hw6⟩, (c, TH[b]), ⟨hc, List.getElem_mem hb'⟩, rfl⟩
        · rintro as ⟨g', w4⟩ hla has ⟨rfl, hw4⟩
          rw [rng_len, Int.toNat_natCast] at hla
          simp only [mVar, mK, mBin, mUn, mTru, mTest, mAnd, mOr, mNot, mAndV, mOrV, mNotV, mIf, mNil, mCons, mTup, mLst, mLstF, mCall, mChain, mIsi, fIsi, tyD, tyP, mSlice, oNo, oSome, mSeq, srcOf, mRange1, mRange2, sNext, sSeq, sIf, sRet, sRetN, sExpr, sSet, sAsg, sAug, sFor, sRaise, gSet, gMore, gNone, Mp.gTup, mMeth, fAppend, mEnum, srcEnum, mDNew, fLen, fInt, truth, ptruth, asB, pp1, pp2, ret1, dIs, isN, allP, frzD, mFrz, List.map_cons, List.map_nil, List.cons_append, List.nil_append, List.length_cons, List.length_nil, List.getElem?_cons_zero, List.getElem?_cons_succ, List.getElem?_nil, List.set_cons_zero, List.set_cons_succ, if_true, ite_true, Nat.reduceAdd, Nat.reduceSub, List.replicate, Bool.false_eq_true, if_false, Bool.not_true, Bool.not_false, mp_ft, mp_tf, isTy, beq_self_eq_true, isi0, isi1, isi2, isi3, isi4, isi5, isi6, isi7, isi8, isi9, isi10, isi11, isi12, isi13, isi14, isi15, isi16, isi17, isi18, isi19, isi20, isi21, isi22, isi23, isi24, isi25, isi26, isi27, isi28, isi29, isi30, isi31, isi32, isi33, isi34, isi35, isi36, isi37, isi38, isi39, isi40, isi41, onlyF, dIx_tup, dIx_lst, dIx_ref, ixAt_0, ixAt_1, ixAt_2, ixAt_3, iEq_int, iNe_int, dAdd, iAdd, iSub, iNeg, iCmp, iLe, iLt, iGe, iGt, dMul, iMulT, iMul, iMod, iDiv, gIx, setIx, decide_true, decide_false, decide_eq_true_eq, Bool.not_eq_true, List.length_map, gets_ok, gets_bind, gets_ite, rsw_ite, rsw_seq, rsw_thn, rsw_nx, rsw_ret, rst_x, rsx_seq, rsx_nx, rsx_ret, rsx_brk, rsx_cont, rsx_ite, rsx_thn, gets_fnM, onlyP, Option.map_some, Src.items, kFrz, allP_map, z2]
          have zas : Mp.sizeOk as.length = true := sizeOk_of (by omega)
          refine draw_w hw4 (by decide) (by decide) fun u w5 hu hw5 => ?_
          obtain ⟨o, ho, hob, eo⟩ : ∃ o : Option Nat, (∀ k, o = some k → 1 ≤ k ∧ k ≤ 60) ∧ (x ∈ BL → o = none) ∧ ixAt [PyData.none, .int (1 + (u : Int))] (if (!decide (x ∈ BL)) = true then 1 else 0) = some (eO o) := by
            by_cases hb : x ∈ BL
            · exact ⟨none, (fun _ e => by cases e), fun _ => rfl, by simp [hb, ixAt_0, eO]⟩
            · exact ⟨some (1 + u), (fun _ e => by cases e; omega), fun z => absurd z hb, by simp [hb, ixAt_1, eO]⟩
          simp only [mVar, mK, mBin, mUn, mTru, mTest, mAnd, mOr, mNot, mAndV, mOrV, mNotV, mIf, mNil, mCons, mTup, mLst, mLstF, mCall, mChain, mIsi, fIsi, tyD, tyP, mSlice, oNo, oSome, mSeq, srcOf, mRange1, mRange2, sNext, sSeq, sIf, sRet, sRetN, sExpr, sSet, sAsg, sAug, sFor, sRaise, gSet, gMore, gNone, Mp.gTup, mMeth, fAppend, mEnum, srcEnum, mDNew, fLen, fInt, truth, ptruth, asB, pp1, pp2, ret1, dIs, isN, allP, frzD, mFrz, List.map_cons, List.map_nil, List.cons_append, List.nil_append, List.length_cons, List.length_nil, List.getElem?_cons_zero, List.getElem?_cons_succ, List.getElem?_nil, List.set_cons_zero, List.set_cons_succ, if_true, ite_true, Nat.reduceAdd, Nat.reduceSub, List.replicate, Bool.false_eq_true, if_false, Bool.not_true, Bool.not_false, mp_ft, mp_tf, isTy, beq_self_eq_true, isi0, isi1, isi2, isi3, isi4, isi5, isi6, isi7, isi8, isi9, isi10, isi11, isi12, isi13, isi14, isi15, isi16, isi17, isi18, isi19, isi20, isi21, isi22, isi23, isi24, isi25, isi26, isi27, isi28, isi29, isi30, isi31, isi32, isi33, isi34, isi35, isi36, isi37, isi38, isi39, isi40, isi41, onlyF, dIx_tup, dIx_lst, dIx_ref, ixAt_0, ixAt_1, ixAt_2, ixAt_3, iEq_int, iNe_int, dAdd, iAdd, iSub, iNeg, iCmp, iLe, iLt, iGe, iGt, dMul, iMulT, iMul, iMod, iDiv, gIx, setIx, decide_true, decide_false, decide_eq_true_eq, Bool.not_eq_true, List.length_map, gets_ok, gets_bind, gets_ite, rsw_ite, rsw_seq, rsw_thn, rsw_nx, rsw_ret, rst_x, rsx_seq, rsx_nx, rsx_ret, rsx_brk, rsx_cont, rsx_ite, rsx_thn, gets_fnM, onlyP, Option.map_some, Src.items, eo, zas, map_map]
          refine lc_typed (I := fun s => s.g = [some (.lst [D.p .none]), some (.lst (fs.map fun o => D.p (oR o)))] ∧ WA s.w) (P := fun st : MSt => ∀ p, st = some p → p.1 ≤ 60 ∧ p.2 ∈ TH) (f := eS) (fun _ _ => trivial) ?_ ⟨rfl, hw5⟩ ?_
          · rintro y hy ⟨g', w6⟩ ⟨rfl, hw6⟩
            obtain ⟨p, hp, rfl⟩ := List.mem_map.mp hy
            simp only [mVar, mK, mBin, mUn, mTru, mTest, mAnd, mOr, mNot, mAndV, mOrV, mNotV, mIf, mNil, mCons, mTup, mLst, mLstF, mCall, mChain, mIsi, fIsi, tyD, tyP, mSlice, oNo, oSome, mSeq, srcOf, mRange1, mRange2, sNext, sSeq, sIf, sRet, sRetN, sExpr, sSet, sAsg, sAug, sFor, sRaise, gSet, gMore, gNone, Mp.gTup, mMeth, fAppend, mEnum, srcEnum, mDNew, fLen, fInt, truth, ptruth, asB, pp1, pp2, ret1, dIs, isN, allP, frzD, mFrz, List.map_cons, List.map_nil, List.cons_append, List.nil_append, List.length_cons, List.length_nil, List.getElem?_cons_zero, List.getElem?_cons_succ, List.getElem?_nil, List.set_cons_zero, List.set_cons_succ, if_true, ite_true, Nat.reduceAdd, Nat.reduceSub, List.replicate, Bool.false_eq_true, if_false, Bool.not_true, Bool.not_false, mp_ft, mp_tf, isTy, beq_self_eq_true, isi0, isi1, isi2, isi3, isi4, isi5, isi6, isi7, isi8, isi9, isi10, isi11, isi12, isi13, isi14, isi15, isi16, isi17, isi18, isi19, isi20, isi21, isi22, isi23, isi24, isi25, isi26, isi27, isi28, isi29, isi30, isi31, isi32, isi33, isi34, isi35, isi36, isi37, isi38, isi39, isi40, isi41, onlyF, dIx_tup, dIx_lst, dIx_ref, ixAt_0, ixAt_1, ixAt_2, ixAt_3, iEq_int, iNe_int, dAdd, iAdd, iSub, iNeg, iCmp, iLe, iLt, iGe, iGt, dMul, iMulT, iMul, iMod, iDiv, gIx, setIx, decide_true, decide_false, decide_eq_true_eq, Bool.not_eq_true, List.length_map, gets_ok, gets_bind, gets_ite, rsw_ite, rsw_seq, rsw_thn, rsw_nx, rsw_ret, rst_x, rsx_seq, rsx_nx, rsx_ret, rsx_brk, rsx_cont, rsx_ite, rsx_thn, gets_fnM, onlyP, Option.map_some, Src.items]
            refine draw_w hw6 (by decide) (by decide) fun v w7 hv hw7 => ?_
            obtain ⟨st, hst, e⟩ : ∃ st : MSt, (∀ q, st = some q → q.1 ≤ 60 ∧ q.2 ∈ TH) ∧ ixAt [eS (some p), PyData.none] (if (v : Int) = 0 then 1 else 0) = some (eS st) := by
              by_cases hv0 : (v : Int) = 0
              · exact ⟨none, (fun q e => by cases e), by simp [hv0, ixAt_1, eS]⟩
              · exact ⟨some p, (fun q e => by cases e; exact has p hp), by rw [if_neg hv0, ixAt_0]⟩
            simp only [mVar, mK, mBin, mUn, mTru, mTest, mAnd, mOr, mNot, mAndV, mOrV, mNotV, mIf, mNil, mCons, mTup, mLst, mLstF, mCall, mChain, mIsi, fIsi, tyD, tyP, mSlice, oNo, oSome, mSeq, srcOf, mRange1, mRange2, sNext, sSeq, sIf, sRet, sRetN, sExpr, sSet, sAsg, sAug, sFor, sRaise, gSet, gMore, gNone, Mp.gTup, mMeth, fAppend, mEnum, srcEnum, mDNew, fLen, fInt, truth, ptruth, asB, pp1, pp2, ret1, dIs, isN, allP, frzD, mFrz, List.map_cons, List.map_nil, List.cons_append, List.nil_append, List.length_cons, List.length_nil, List.getElem?_cons_zero, List.getElem?_cons_succ, List.getElem?_nil, List.set_cons_zero, List.set_cons_succ, if_true, ite_true, Nat.reduceAdd, Nat.reduceSub, List.replicate, Bool.false_eq_true, if_false, Bool.not_true, Bool.not_false, mp_ft, mp_tf, isTy, beq_self_eq_true, isi0, isi1, isi2, isi3, isi4, isi5, isi6, isi7, isi8, isi9, isi10, isi11, isi12, isi13, isi14, isi15, isi16, isi17, isi18, isi19, isi20, isi21, isi22, isi23, isi24, isi25, isi26, isi27, isi28, isi29, isi30, isi31, isi32, isi33, isi34, isi35, isi36, isi37, isi38, isi39, isi40, isi41, onlyF, dIx_tup, dIx_lst, dIx_ref, ixAt_0, ixAt_1, ixAt_2, ixAt_3, iEq_int, iNe_int, dAdd, iAdd, iSub, iNeg, iCmp, iLe, iLt, iGe, iGt, dMul, iMulT, iMul, iMod, iDiv, gIx, setIx, decide_true, decide_false, decide_eq_true_eq, Bool.not_eq_true, List.length_map, gets_ok, gets_bind, gets_ite, rsw_ite, rsw_seq, rsw_thn, rsw_nx, rsw_ret, rst_x, rsx_seq, rsx_nx, rsx_ret, rsx_brk, rsx_cont, rsx_ite, rsx_thn, gets_fnM, onlyP, Option.map_some, Src.items, z2, fInt, e]
            exact ⟨⟨trivial, hw7⟩, st, hst, rfl⟩
          · rintro bs ⟨g', w6⟩ hlb hbs ⟨rfl, hw6⟩
            rw [List.length_map] at hlb
            have eixn : ixN fs.length (x : Int) = some x := ixN_nat (by omega)
            simp only [mVar, mK, mBin, mUn, mTru, mTest, mAnd, mOr, mNot, mAndV, mOrV, mNotV, mIf, mNil, mCons, mTup, mLst, mLstF, mCall, mChain, mIsi, fIsi, tyD, tyP, mSlice, oNo, oSome, mSeq, srcOf, mRange1, mRange2, sNext, sSeq, sIf, sRet, sRetN, sExpr, sSet, sAsg, sAug, sFor, sRaise, gSet, gMore, gNone, Mp.gTup, mMeth, fAppend, mEnum, srcEnum, mDNew, fLen, fInt, truth, ptruth, asB, pp1, pp2, ret1, dIs, isN, allP, frzD, mFrz, List.map_cons, List.map_nil, List.cons_append, List.nil_append, List.length_cons, List.length_nil, List.getElem?_cons_zero, List.getElem?_cons_succ, List.getElem?_nil, List.set_cons_zero, List.set_cons_succ, if_true, ite_true, Nat.reduceAdd, Nat.reduceSub, List.replicate, Bool.false_eq_true, if_false, Bool.not_true, Bool.not_false, mp_ft, mp_tf, isTy, beq_self_eq_true, isi0, isi1, isi2, isi3, isi4, isi5, isi6, isi7, isi8, isi9, isi10, isi11, isi12, isi13, isi14, isi15, isi16, isi17, isi18, isi19, isi20, isi21, isi22, isi23, isi24, isi25, isi26, isi27, isi28, isi29, isi30, isi31, isi32, isi33, isi34, isi35, isi36, isi37, isi38, isi39, isi40, isi41, onlyF, dIx_tup, dIx_lst, dIx_ref, ixAt_0, ixAt_1, ixAt_2, ixAt_3, iEq_int, iNe_int, dAdd, iAdd, iSub, iNeg, iCmp, iLe, iLt, iGe, iGt, dMul, iMulT, iMul, iMod, iDiv, gIx, setIx, decide_true, decide_false, decide_eq_true_eq, Bool.not_eq_true, List.length_map, gets_ok, gets_bind, gets_ite, rsw_ite, rsw_seq, rsw_thn, rsw_nx, rsw_ret, rst_x, rsx_seq, rsx_nx, rsx_ret, rsx_brk, rsx_cont, rsx_ite, rsx_thn, gets_fnM, onlyP, Option.map_some, Src.items, kFrz, allP_map, fTuple, lstP, z2, List.length_map, eN, eixn]
            refine ⟨r1, r2 ++ [x], fs.set x (some ⟨o, bs⟩), _, _, _, _, w6, rfl, by simpa using hr, hw6, by simpa using hfl, ?_, ?_, ?_, rfl⟩
            · intro j hj
              obtain ⟨r, e1, g1⟩ := hfs j hj
              refine ⟨r, ?_, g1⟩
              rw [List.getElem?_set_ne]
              · exact e1
              · exact fun z => ((mFR x).mp hxF).2 ((mNL x).mpr ⟨j, hj, z.symm⟩)
            · intro y hy
              by_cases e : y = x
              · subst e
                refine ⟨⟨o, bs⟩, by rw [List.getElem?_set_self (by omega)], ⟨by show bs.length = _; omega, ho, ?_⟩, fun hb => ⟨hob hb, ?_⟩⟩
                · intro s hs p e
                  obtain ⟨h1, h2⟩ := hbs s hs p e
                  exact ⟨h1, sTH _ h2⟩
                · intro c p e
                  rw [← bTH hb]
                  have e : (bs[c]?.getD none) = some p := e
                  cases e1 : bs[c]? with
                  | none => rw [e1] at e; cases e
                  | some s =>
                    rw [e1] at e
                    exact (hbs s (List.mem_of_getElem? e1) p e).2
              · rcases List.mem_append.mp hy with hy | hy
                · obtain ⟨r, e1, g1⟩ := hfs2 y hy
                  exact ⟨r, by rw [List.getElem?_set_ne (fun z => e z.symm)]; exact e1, g1⟩
                · exact absurd (List.mem_singleton.mp hy) e
            · simp [oR, eR, List.map_set]
    · rintro e s' ⟨r1, r2, fs, e7, e10, e12, e14, w', hx, hr, hw', hfl, hfs, hfs2, rfl, rfl⟩
      cases r1 with
      | cons x r1 => cases hx
      | nil =>
        rw [List.append_nil] at hr
        subst hr
        have hall : ∀ x, x < fs.length → ∃ r, fs[x]? = some (some r) ∧ r.Ok m.n (m.rs.length + k) := fun x hx => by
          by_cases hn : x ∈ NL
          · obtain ⟨j, hj, rfl⟩ := (mNL x).mp hn
            obtain ⟨r, e1, g1⟩ := hfs j hj
            exact ⟨r, e1, g1.1⟩
          · obtain ⟨r, e1, g1⟩ := hfs2 x ((mFR x).mpr ⟨by omega, hn⟩)
            exact ⟨r, e1, g1.1⟩
        obtain ⟨rs, hrs⟩ : ∃ rs : List MRow, fs = rs.map some := by
          refine ⟨fs.map fun o => o.getD ⟨none, []⟩, ?_⟩
          rw [List.map_map]
          refine (List.map_id fs).symm.trans (List.map_congr_left fun o ho => ?_)
          obtain ⟨x, hx, e⟩ := List.mem_iff_getElem.mp ho
          obtain ⟨r, e1, _⟩ := hall x hx
          rw [List.getElem?_eq_getElem hx, e] at e1
          cases e1
          rfl
        subst hrs
        have hrl : rs.length = m.rs.length + k := by simpa using hfl
        have rw_ : ∀ {x r}, (rs.map some)[x]? = some (some r) → (Mac.mk m.n rs).row x = r := fun {x r} e => by
          rw [List.getElem?_map] at e
          obtain ⟨r', e1, e2⟩ := Option.map_eq_some_iff.mp e
          cases e2
          simp [Mac.row, e1]
        have zz : (rs.map some).map (fun o => D.p (oR o)) = rs.map fun r => D.p (eR r) := by simp [oR]
        simp only [mVar, mK, mBin, mUn, mTru, mTest, mAnd, mOr, mNot, mAndV, mOrV, mNotV, mIf, mNil, mCons, mTup, mLst, mLstF, mCall, mChain, mIsi, fIsi, tyD, tyP, mSlice, oNo, oSome, mSeq, srcOf, mRange1, mRange2, sNext, sSeq, sIf, sRet, sRetN, sExpr, sSet, sAsg, sAug, sFor, sRaise, gSet, gMore, gNone, Mp.gTup, mMeth, fAppend, mEnum, srcEnum, mDNew, fLen, fInt, truth, ptruth, asB, pp1, pp2, ret1, dIs, isN, allP, frzD, mFrz, List.map_cons, List.map_nil, List.cons_append, List.nil_append, List.length_cons, List.length_nil, List.getElem?_cons_zero, List.getElem?_cons_succ, List.getElem?_nil, List.set_cons_zero, List.set_cons_succ, if_true, ite_true, Nat.reduceAdd, Nat.reduceSub, List.replicate, Bool.false_eq_true, if_false, Bool.not_true, Bool.not_false, mp_ft, mp_tf, isTy, beq_self_eq_true, isi0, isi1, isi2, isi3, isi4, isi5, isi6, isi7, isi8, isi9, isi10, isi11, isi12, isi13, isi14, isi15, isi16, isi17, isi18, isi19, isi20, isi21, isi22, isi23, isi24, isi25, isi26, isi27, isi28, isi29, isi30, isi31, isi32, isi33, isi34, isi35, isi36, isi37, isi38, isi39, isi40, isi41, onlyF, dIx_tup, dIx_lst, dIx_ref, ixAt_0, ixAt_1, ixAt_2, ixAt_3, iEq_int, iNe_int, dAdd, iAdd, iSub, iNeg, iCmp, iLe, iLt, iGe, iGt, dMul, iMulT, iMul, iMod, iDiv, gIx, setIx, decide_true, decide_false, decide_eq_true_eq, Bool.not_eq_true, List.length_map, gets_ok, gets_bind, gets_ite, rsw_ite, rsw_seq, rsw_thn, rsw_nx, rsw_ret, rst_x, rsx_seq, rsx_nx, rsx_ret, rsx_brk, rsx_cont, rsx_ite, rsx_thn, gets_fnM, onlyP, Option.map_some, Src.items, zz, fTuple, lstP, allP_map, z2]
        have okm : (Mac.mk m.n rs).Ok := ⟨hn1, hn8, by show 1 ≤ rs.length; omega, by show rs.length ≤ 30; omega, fun r hr => by
          obtain ⟨x, hx, e⟩ := List.mem_iff_getElem.mp hr
          obtain ⟨r', e1, ok⟩ := hall x (by simpa using hx)
          have : r' = r := by
            rw [List.getElem?_map, List.getElem?_eq_getElem hx, e] at e1
            cases e1
            rfl
          subst this
          show r'.Ok m.n rs.length
          rw [hrl]; exact ok⟩
        refine ⟨_, rfl, h ⟨m.n, rs⟩ (numF ms) (fun b => b ∈ BL) w' okm ?_ hw'⟩
        have row1 : ∀ i, i < m.rs.length → Gd1 i ((Mac.mk m.n rs).row (numF ms i)) := fun i hi => by
          obtain ⟨r, e1, g1⟩ := hfs i hi
          rw [rw_ e1]; exact g1
        have row2 : ∀ b, b ∈ BL → Gd2 b ((Mac.mk m.n rs).row b) := fun b hb => by
          obtain ⟨r, e1, g1⟩ := hfs2 b (sBL b hb)
          rw [rw_ e1]; exact g1
        refine ⟨rfl, numF_zero hms, fun i j hij => numF_mono hij, fun i hi => (row1 i hi).2.1, fun i hi => (row1 i hi).1.len, fun i hi c hc => (row1 i hi).2.2 c hc, fun b hb => ((row2 b hb).2 hb).1, fun b hb r hr => ?_, fun i hi hb => ((mFR _).mp (sBL _ hb)).2 ((mNL _).mpr ⟨i, hi, rfl⟩)⟩
        obtain ⟨c, _, k', e⟩ := (Mac.nx_mem (row2 b hb).1.len).mp hr
        exact ((row2 b hb).2 hb).2 c _ e

/-! _law_inside -/
theorem sc__law_inside : FnScope ["_law_step_here", "_law_states"] ["_law_step_here", "_law_states"] (defScope t__law_inside) := ⟨rfl, rfl, rfl, by decide +kernel, rfl, by decide +kernel, by decide +kernel⟩
theorem bn__law_inside : BindN "_law_inside" t__law_inside ["_law_step_here", "_law_states"] := fun _ _ _ _ _ _ us hl => match us, hl with | [_, _], _ => rfl
noncomputable def b__law_inside : MS := (sSeq (sIf (mOr (mTest (mBin (dIs true) (mVar 0) (mK .none))) (mTest (mBin (pp2 iGe) (mBin dIx (mVar 0) (mK (.int 1))) (mVar 1)))) (sRet (mK .none)) sNext) (sRet (mVar 0)))
theorem raw__law_inside (N : Nm K mg) : DefOk P w K mg base "_law_inside" 1 2 (fnM 2 2 b__law_inside) := def_mk N.d__law_inside sc__law_inside bn__law_inside rfl rfl fun f cdv A outer s H E hr nd tk hp => (ss_cons (s_if (t_w (w_or (t_cmp o_is (e_var (i := 0)) e_none (nomark _)) (w_or1 (t_cmp o_geP (e_ix (e_var (i := 0)) e_int) (e_var (i := 1)) (nomark _))))) (ss_one (s_ret e_none)) ss_nil) (ss_one (s_ret (e_var (i := 0)))))
noncomputable def M__law_inside : List D → S → R D := pureRun (fnM 2 2 b__law_inside)
theorem ok__law_inside (N : Nm K mg) : DefOk P w K mg base "_law_inside" 1 2 M__law_inside := (raw__law_inside N).alone
def inS (q : Nat) : MSt → MSt
  | none => none
  | some p => if q ≤ p.2 then none else some p
theorem inside_eq {st : MSt} {q : Nat} {s : S} : M__law_inside [.p (eS st), .p (.int (q : Int))] s = .ok (.p (eS (inS q st))) s := by
  cases st with
  | none => rfl
  | some p =>
    by_cases h : q ≤ p.2
    · have h' : (p.2 : Int) ≥ (q : Int) := by omega
      simp [M__law_inside, b__law_inside, pureRun, onlyP, fnM, mVar, mK, mBin, mUn, mTru, mTest, mAnd, mOr, mNot, mAndV, mOrV, mNotV, mIf, mNil, mCons, mTup, mLst, mLstF, mCall, mChain, mIsi, fIsi, tyD, tyP, mSlice, oNo, oSome, mSeq, srcOf, mRange1, mRange2, sNext, sSeq, sIf, sRet, sRetN, sExpr, sSet, sAsg, sAug, sFor, sRaise, gSet, gMore, gNone, Mp.gTup, mMeth, fAppend, mEnum, srcEnum, mDNew, fLen, fInt, truth, ptruth, asB, pp1, pp2, ret1, dIs, isN, allP, frzD, mFrz, Mp.R.bind, R.thn, RS.seq, List.map_cons, List.map_nil, List.cons_append, List.nil_append, List.length_cons, List.length_nil, List.getElem?_cons_zero, List.getElem?_cons_succ, List.getElem?_nil, List.set_cons_zero, List.set_cons_succ, if_true, ite_true, Nat.reduceAdd, Nat.reduceSub, List.replicate, Bool.false_eq_true, if_false, Bool.not_true, Bool.not_false, mp_ft, mp_tf, isTy, beq_self_eq_true, isi0, isi1, isi2, isi3, isi4, isi5, isi6, isi7, isi8, isi9, isi10, isi11, isi12, isi13, isi14, isi15, isi16, isi17, isi18, isi19, isi20, isi21, isi22, isi23, isi24, isi25, isi26, isi27, isi28, isi29, isi30, isi31, isi32, isi33, isi34, isi35, isi36, isi37, isi38, isi39, isi40, isi41, onlyF, dIx_tup, dIx_lst, dIx_ref, ixAt_0, ixAt_1, ixAt_2, ixAt_3, iEq_int, iNe_int, dAdd, iAdd, iSub, iNeg, iCmp, iLe, iLt, iGe, iGt, dMul, iMulT, iMul, iMod, iDiv, gIx, setIx, decide_true, decide_false, decide_eq_true_eq, Bool.not_eq_true, List.length_map, eS, inS, h, h', isN]
    · have h' : ¬ (p.2 : Int) ≥ (q : Int) := by omega
      simp [M__law_inside, b__law_inside, pureRun, onlyP, fnM, mVar, mK, mBin, mUn, mTru, mTest, mAnd, mOr, mNot, mAndV, mOrV, mNotV, mIf, mNil, mCons, mTup, mLst, mLstF, mCall, mChain, mIsi, fIsi, tyD, tyP, mSlice, oNo, oSome, mSeq, srcOf, mRange1, mRange2, sNext, sSeq, sIf, sRet, sRetN, sExpr, sSet, sAsg, sAug, sFor, sRaise, gSet, gMore, gNone, Mp.gTup, mMeth, fAppend, mEnum, srcEnum, mDNew, fLen, fInt, truth, ptruth, asB, pp1, pp2, ret1, dIs, isN, allP, frzD, mFrz, Mp.R.bind, R.thn, RS.seq, List.map_cons, List.map_nil, List.cons_append, List.nil_append, List.length_cons, List.length_nil, List.getElem?_cons_zero, List.getElem?_cons_succ, List.getElem?_nil, List.set_cons_zero, List.set_cons_succ, if_true, ite_true, Nat.reduceAdd, Nat.reduceSub, List.replicate, Bool.false_eq_true, if_false, Bool.not_true, Bool.not_false, mp_ft, mp_tf, isTy, beq_self_eq_true, isi0, isi1, isi2, isi3, isi4, isi5, isi6, isi7, isi8, isi9, isi10, isi11, isi12, isi13, isi14, isi15, isi16, isi17, isi18, isi19, isi20, isi21, isi22, isi23, isi24, isi25, isi26, isi27, isi28, isi29, isi30, isi31, isi32, isi33, isi34, isi35, isi36, isi37, isi38, isi39, isi40, isi41, onlyF, dIx_tup, dIx_lst, dIx_ref, ixAt_0, ixAt_1, ixAt_2, ixAt_3, iEq_int, iNe_int, dAdd, iAdd, iSub, iNeg, iCmp, iLe, iLt, iGe, iGt, dMul, iMulT, iMul, iMod, iDiv, gIx, setIx, decide_true, decide_false, decide_eq_true_eq, Bool.not_eq_true, List.length_map, eS, inS, h, h', isN]

/-! law -/
theorem sc_law : FnScope ["_law_script", "_law_well_here", "_law_machine_here", "_law_rows", "_law_row", "_law_step_here", "_law_other", "_law_told", "_law_text"] ["_law_script"] (defScope t_law) := ⟨rfl, rfl, rfl, by decide +kernel, rfl, by decide +kernel, by decide +kernel⟩
theorem bn_law : BindN "law" t_law ["_law_script"] := fun _ _ _ _ _ _ us hl => match us, hl with | [_], _ => rfl
noncomputable def b_law : MS := (sSeq (sSet 1 (mCall M__law_well (mCons (mVar 0) mNil))) (sSeq (sSet 2 (mCall M__law_machine (mCons (mVar 1) mNil))) (sSeq (sSet 2 (mTup (mCons (mBin dIx (mVar 2) (mK (.int 0))) (mCons (mSlice (mBin dIx (mVar 2) (mK (.int 1))) oNo (oSome (mK (.int 20)))) mNil)))) (sSeq (sSet 3 (mLc (mSeq (mBin dIx (mVar 2) (mK (.int 1)))) [4] (gSet 4) mYes (mTup (mCons (mBin dIx (mVar 4) (mK (.int 0))) (mCons (mCall fTuple (mCons (mLc (mSeq (mBin dIx (mVar 4) (mK (.int 1)))) [5] (gSet 5) mYes (mCall M__law_inside (mCons (mVar 5) (mCons (mCall fLen (mCons (mBin dIx (mVar 2) (mK (.int 1))) mNil)) mNil))) kFrz) mNil)) mNil))) kFrz)) (sSeq (sSet 2 (mTup (mCons (mBin dIx (mVar 2) (mK (.int 0))) (mCons (mCall fTuple (mCons (mVar 3) mNil)) mNil)))) (sSeq (sSet 6 (mCall M__law_with_more (mCons (mVar 1) (mCons (mVar 2) mNil)))) (sSeq (sSet 7 (mCall M_trimmed (mCons (mVar 2) mNil))) (sSeq (sIf (mOr (mTest (mBin (pp2 iNe) (mCall M_trimmed (mCons (mVar 6) mNil)) (mVar 7))) (mTest (mBin (pp2 iNe) (mVar 7) (mCall M__law_trimmed (mCons (mVar 2) mNil))))) (sRet (mK (.bool false))) sNext) (sRet (mCall fAll (mCons (mLc (mSeq (mCall M__law_short_texts (mCons (mBin dIx (mVar 2) (mK (.int 0))) (mCons (mK (.int 200)) mNil)))) [8] (gSet 8) mYes (mBin (pp2 iEq) (mCall M_length (mCons (mVar 2) (mCons (mVar 8) mNil))) (mCall M_length (mCons (mVar 6) (mCons (mVar 8) mNil)))) kFrz) mNil)))))))))))
noncomputable def M_law : List D → S → R D := fnM 1 9 b_law
theorem ok_law (N : Nm K mg) : ∀ f fd, FunD K "law" "law" (defArgs t_law) (defBody t_law) (defScope t_law) [] [] f fd → FnOk P w K mg base (L2.CX P w) 9 f fd ["_law_script"] (spM ⟨K, mg⟩ 1 M_law) := def_fn sc_law rfl rfl fun f cdv A outer s H E hr nd tk hp => (ss_cons (s_set (i := 1) nd (e_callS (ok__law_well N) hr (by decide) tk (a_cons (e_var (i := 0)) a_nil) (argN_cons argN_nil))) (ss_cons (s_set (i := 2) nd (e_callS (ok__law_machine N) hr (by decide) tk (a_cons (e_var (i := 1)) a_nil) (argN_cons argN_nil))) (ss_cons (s_set (i := 2) nd (e_tup (a_cons (e_ix (e_var (i := 2)) e_int) (a_cons (e_slice (e_ix (e_var (i := 2)) e_int) p_no (p_some e_int)) a_nil)))) (ss_cons (s_lcF (i := 3) (own := [("_law_row", 4)]) rfl nd rfl rfl (sw_true rfl rfl rfl (by decide +kernel)) (i_seq (e_ix (e_var (i := 2)) e_int)) (blkOk_by (N := ["_law_script", "_law_well_here", "_law_machine_here", "_law_rows", "_law_row", "_law_step_here", "_law_other", "_law_told", "_law_text"]) (sc := defScope t_law) (own := [("_law_row", 4)]) (by decide +kernel)) (tg_name (i := 4) (by decide)) (fun _ _ _ _ _ => pg_name (i := 4) nd rfl (by first | exact Or.inl rfl | exact Or.inr rfl)) (fun _ _ _ _ _ => c_no) (fun _ _ _ _ _ => (e_tup (a_cons (e_ix (e_var (i := 4)) e_int) (a_cons (e_ty b_tuple rfl N.f_tuple bt_tuple (a_cons (e_lcF (own := [("_law_step_here", 5)]) rfl nd (i_seq (e_ix (e_var (i := 4)) e_int)) (blkOk_by (own := [("_law_step_here", 5)]) (by with_unfolding_all rfl)) (tg_name (i := 5) (by decide)) (fun _ _ _ _ _ => pg_name (i := 5) nd rfl (by first | exact Or.inl rfl | exact Or.inr rfl)) (fun _ _ _ _ _ => c_no) (fun _ _ _ _ _ => (e_callS (ok__law_inside N) hr (by decide) takes0 (a_cons (e_var (i := 5)) (a_cons (e_bi b_len rfl N.f_len bt_len (a_cons (e_ix (e_var (i := 2)) e_int) a_nil)) a_nil)) (argN_cons (argN_cons argN_nil))))) a_nil)) a_nil))))) (ss_cons (s_set (i := 2) nd (e_tup (a_cons (e_ix (e_var (i := 2)) e_int) (a_cons (e_ty b_tuple rfl N.f_tuple bt_tuple (a_cons (e_var (i := 3)) a_nil)) a_nil)))) (ss_cons (s_set (i := 6) nd (e_callS (ok__law_with_more N) hr (by decide) tk (a_cons (e_var (i := 1)) (a_cons (e_var (i := 2)) a_nil)) (argN_cons (argN_cons argN_nil)))) (ss_cons (s_set (i := 7) nd (e_callS (ok_trimmed N) hr (by decide) tk (a_cons (e_var (i := 2)) a_nil) (argN_cons argN_nil))) (ss_cons (s_if (t_w (w_or (t_cmp (o_ne hr.units) (e_callS (ok_trimmed N) hr (by decide) tk (a_cons (e_var (i := 6)) a_nil) (argN_cons argN_nil)) (e_var (i := 7)) (nomark _)) (w_or1 (t_cmp (o_ne hr.units) (e_var (i := 7)) (e_callS (ok__law_trimmed N) hr (by decide) tk (a_cons (e_var (i := 2)) a_nil) (argN_cons argN_nil)) (nomark _))))) (ss_one (s_ret e_bool)) ss_nil) (ss_one (s_ret (e_bi (b_all rfl) rfl N.f_all bt_all (a_cons (e_lcF (own := [("_law_text", 8)]) rfl nd (i_seq (e_callS (ok__law_short_texts N) hr (by decide) tk (a_cons (e_ix (e_var (i := 2)) e_int) (a_cons e_int a_nil)) (argN_cons (argN_cons argN_nil)))) (blkOk_by (N := ["_law_script", "_law_well_here", "_law_machine_here", "_law_rows", "_law_row", "_law_step_here", "_law_other", "_law_told", "_law_text"]) (sc := defScope t_law) (own := [("_law_text", 8)]) (by decide +kernel)) (tg_name (i := 8) (by decide)) (fun _ _ _ _ _ => pg_name (i := 8) nd rfl (by first | exact Or.inl rfl | exact Or.inr rfl)) (fun _ _ _ _ _ => c_no) (fun _ _ _ _ _ => (e_cmp (o_eq hr.units) (e_callS (ok_length N) hr (by decide) takes0 (a_cons (e_var (i := 2)) (a_cons (e_var (i := 8)) a_nil)) (argN_cons (argN_cons argN_nil))) (e_callS (ok_length N) hr (by decide) takes0 (a_cons (e_var (i := 6)) (a_cons (e_var (i := 8)) a_nil)) (argN_cons (argN_cons argN_nil))) (nomark _)))) a_nil))))))))))))
theorem cut_ok {m : Mac} (hm : m.Ok) : (Mac.mk m.n ((m.rs.take 20).map fun r => ⟨r.fin, r.ss.map (inS (m.rs.take 20).length)⟩)).Ok := by
  have h1 := hm.r1
  refine ⟨hm.n1, hm.n8, by simp; omega, by simp; omega, ?_⟩
  intro r hr
  obtain ⟨r0, hr0, rfl⟩ := List.mem_map.mp hr
  have ok := hm.rs r0 (List.mem_of_mem_take hr0)
  refine ⟨by simp [ok.len], ok.fin, ?_⟩
  intro s hs p e
  obtain ⟨s0, hs0, rfl⟩ := List.mem_map.mp hs
  cases s0 with
  | none => cases e
  | some p0 =>
    simp only [inS] at e
    split at e
    · cases e
    · rename_i hq
      cases e
      exact ⟨(ok.ss _ hs0 p rfl).1, by simp only [List.length_map]; omega⟩
theorem law_true : ∀ ns : List Int, ns.length ≤ 63 → ∃ s', M_law [.p (.list (ns.map .int))] ⟨[], []⟩ = .ok (.p (.bool true)) s' := by
  intro ns hns
  suffices h : Gets (M_law [.p (.list (ns.map .int))] ⟨[], []⟩) fun d _ => d = .p (.bool true) by
    obtain ⟨d, s, e, rfl⟩ := h
    exact ⟨s, e⟩
  obtain ⟨w, hw, ew⟩ := well ns hns
  unfold M_law
  have z2 : Mp.sizeOk 2 = true := by decide
  simp only [b_law, mVar, mK, mBin, mUn, mTru, mTest, mAnd, mOr, mNot, mAndV, mOrV, mNotV, mIf, mNil, mCons, mTup, mLst, mLstF, mCall, mChain, mIsi, fIsi, tyD, tyP, mSlice, oNo, oSome, mSeq, srcOf, mRange1, mRange2, sNext, sSeq, sIf, sRet, sRetN, sExpr, sSet, sAsg, sAug, sFor, sRaise, gSet, gMore, gNone, Mp.gTup, mMeth, fAppend, mEnum, srcEnum, mDNew, fLen, fInt, truth, ptruth, asB, pp1, pp2, ret1, dIs, isN, allP, frzD, mFrz, List.map_cons, List.map_nil, List.cons_append, List.nil_append, List.length_cons, List.length_nil, List.getElem?_cons_zero, List.getElem?_cons_succ, List.getElem?_nil, List.set_cons_zero, List.set_cons_succ, if_true, ite_true, Nat.reduceAdd, Nat.reduceSub, List.replicate, Bool.false_eq_true, if_false, Bool.not_true, Bool.not_false, mp_ft, mp_tf, isTy, beq_self_eq_true, isi0, isi1, isi2, isi3, isi4, isi5, isi6, isi7, isi8, isi9, isi10, isi11, isi12, isi13, isi14, isi15, isi16, isi17, isi18, isi19, isi20, isi21, isi22, isi23, isi24, isi25, isi26, isi27, isi28, isi29, isi30, isi31, isi32, isi33, isi34, isi35, isi36, isi37, isi38, isi39, isi40, isi41, onlyF, dIx_tup, dIx_lst, dIx_ref, ixAt_0, ixAt_1, ixAt_2, ixAt_3, iEq_int, iNe_int, dAdd, iAdd, iSub, iNeg, iCmp, iLe, iLt, iGe, iGt, dMul, iMulT, iMul, iMod, iDiv, gIx, setIx, decide_true, decide_false, decide_eq_true_eq, Bool.not_eq_true, List.length_map, gets_ok, gets_bind, gets_ite, rsw_ite, rsw_seq, rsw_thn, rsw_nx, rsw_ret, rst_x, rsx_seq, rsx_nx, rsx_ret, rsx_brk, rsx_cont, rsx_ite, rsx_thn, gets_fnM, onlyP, Option.map_some, Src.items, ew]
  refine mach_w hw fun m0 w1 hm0 hw1 => ?_
  have hc : cutL (m0.rs.map eR) none (some 20) = (m0.rs.take 20).map eR := by rw [cutL_map]; exact congrArg _ (cut_take (k := 20))
  have zt : Mp.sizeOk (m0.rs.take 20).length = true := sizeOk_of (by simp; omega)
  simp only [mVar, mK, mBin, mUn, mTru, mTest, mAnd, mOr, mNot, mAndV, mOrV, mNotV, mIf, mNil, mCons, mTup, mLst, mLstF, mCall, mChain, mIsi, fIsi, tyD, tyP, mSlice, oNo, oSome, mSeq, srcOf, mRange1, mRange2, sNext, sSeq, sIf, sRet, sRetN, sExpr, sSet, sAsg, sAug, sFor, sRaise, gSet, gMore, gNone, Mp.gTup, mMeth, fAppend, mEnum, srcEnum, mDNew, fLen, fInt, truth, ptruth, asB, pp1, pp2, ret1, dIs, isN, allP, frzD, mFrz, List.map_cons, List.map_nil, List.cons_append, List.nil_append, List.length_cons, List.length_nil, List.getElem?_cons_zero, List.getElem?_cons_succ, List.getElem?_nil, List.set_cons_zero, List.set_cons_succ, if_true, ite_true, Nat.reduceAdd, Nat.reduceSub, List.replicate, Bool.false_eq_true, if_false, Bool.not_true, Bool.not_false, mp_ft, mp_tf, isTy, beq_self_eq_true, isi0, isi1, isi2, isi3, isi4, isi5, isi6, isi7, isi8, isi9, isi10, isi11, isi12, isi13, isi14, isi15, isi16, isi17, isi18, isi19, isi20, isi21, isi22, isi23, isi24, isi25, isi26, isi27, isi28, isi29, isi30, isi31, isi32, isi33, isi34, isi35, isi36, isi37, isi38, isi39, isi40, isi41, onlyF, dIx_tup, dIx_lst, dIx_ref, ixAt_0, ixAt_1, ixAt_2, ixAt_3, iEq_int, iNe_int, dAdd, iAdd, iSub, iNeg, iCmp, iLe, iLt, iGe, iGt, dMul, iMulT, iMul, iMod, iDiv, gIx, setIx, decide_true, decide_false, decide_eq_true_eq, Bool.not_eq_true, List.length_map, gets_ok, gets_bind, gets_ite, rsw_ite, rsw_seq, rsw_thn, rsw_nx, rsw_ret, rst_x, rsx_seq, rsx_nx, rsx_ret, rsx_brk, rsx_cont, rsx_ite, rsx_thn, gets_fnM, onlyP, Option.map_some, Src.items, ix_M0, ix_M1, fSlice, hc, z2, eM, mLc, wipeE, zt, map_map]
  rw [lc_map (f := fun r => D.p (eR ⟨r.fin, r.ss.map (inS (m0.rs.take 20).length)⟩)) trivial (fun r hr => by
    have ok := hm0.rs r (List.mem_of_mem_take hr)
    have zs : Mp.sizeOk r.ss.length = true := sizeOk_of (by rw [ok.len]; have := hm0.n8; omega)
    simp only [pureRun, onlyP, fnM, mVar, mK, mBin, mUn, mTru, mTest, mAnd, mOr, mNot, mAndV, mOrV, mNotV, mIf, mNil, mCons, mTup, mLst, mLstF, mCall, mChain, mIsi, fIsi, tyD, tyP, mSlice, oNo, oSome, mSeq, srcOf, mRange1, mRange2, sNext, sSeq, sIf, sRet, sRetN, sExpr, sSet, sAsg, sAug, sFor, sRaise, gSet, gMore, gNone, Mp.gTup, mMeth, fAppend, mEnum, srcEnum, mDNew, fLen, fInt, truth, ptruth, asB, pp1, pp2, ret1, dIs, isN, allP, frzD, mFrz, Mp.R.bind, R.thn, RS.seq, List.map_cons, List.map_nil, List.cons_append, List.nil_append, List.length_cons, List.length_nil, List.getElem?_cons_zero, List.getElem?_cons_succ, List.getElem?_nil, List.set_cons_zero, List.set_cons_succ, if_true, ite_true, Nat.reduceAdd, Nat.reduceSub, List.replicate, Bool.false_eq_true, if_false, Bool.not_true, Bool.not_false, mp_ft, mp_tf, isTy, beq_self_eq_true, isi0, isi1, isi2, isi3, isi4, isi5, isi6, isi7, isi8, isi9, isi10, isi11, isi12, isi13, isi14, isi15, isi16, isi17, isi18, isi19, isi20, isi21, isi22, isi23, isi24, isi25, isi26, isi27, isi28, isi29, isi30, isi31, isi32, isi33, isi34, isi35, isi36, isi37, isi38, isi39, isi40, isi41, onlyF, dIx_tup, dIx_lst, dIx_ref, ixAt_0, ixAt_1, ixAt_2, ixAt_3, iEq_int, iNe_int, dAdd, iAdd, iSub, iNeg, iCmp, iLe, iLt, iGe, iGt, dMul, iMulT, iMul, iMod, iDiv, gIx, setIx, decide_true, decide_false, decide_eq_true_eq, Bool.not_eq_true, List.length_map, ix_R0, ix_R1, mLc, wipeE, Src.items, zs, map_map, zt]
    rw [lc_map (f := fun st => D.p (eS (inS (m0.rs.take 20).length st))) trivial (fun st _ => by
      simp only [pureRun, onlyP, fnM, mVar, mK, mBin, mUn, mTru, mTest, mAnd, mOr, mNot, mAndV, mOrV, mNotV, mIf, mNil, mCons, mTup, mLst, mLstF, mCall, mChain, mIsi, fIsi, tyD, tyP, mSlice, oNo, oSome, mSeq, srcOf, mRange1, mRange2, sNext, sSeq, sIf, sRet, sRetN, sExpr, sSet, sAsg, sAug, sFor, sRaise, gSet, gMore, gNone, Mp.gTup, mMeth, fAppend, mEnum, srcEnum, mDNew, fLen, fInt, truth, ptruth, asB, pp1, pp2, ret1, dIs, isN, allP, frzD, mFrz, Mp.R.bind, R.thn, RS.seq, List.map_cons, List.map_nil, List.cons_append, List.nil_append, List.length_cons, List.length_nil, List.getElem?_cons_zero, List.getElem?_cons_succ, List.getElem?_nil, List.set_cons_zero, List.set_cons_succ, if_true, ite_true, Nat.reduceAdd, Nat.reduceSub, List.replicate, Bool.false_eq_true, if_false, Bool.not_true, Bool.not_false, mp_ft, mp_tf, isTy, beq_self_eq_true, isi0, isi1, isi2, isi3, isi4, isi5, isi6, isi7, isi8, isi9, isi10, isi11, isi12, isi13, isi14, isi15, isi16, isi17, isi18, isi19, isi20, isi21, isi22, isi23, isi24, isi25, isi26, isi27, isi28, isi29, isi30, isi31, isi32, isi33, isi34, isi35, isi36, isi37, isi38, isi39, isi40, isi41, onlyF, dIx_tup, dIx_lst, dIx_ref, ixAt_0, ixAt_1, ixAt_2, ixAt_3, iEq_int, iNe_int, dAdd, iAdd, iSub, iNeg, iCmp, iLe, iLt, iGe, iGt, dMul, iMulT, iMul, iMod, iDiv, gIx, setIx, decide_true, decide_false, decide_eq_true_eq, Bool.not_eq_true, List.length_map, zt]
      exact inside_eq)]
    simp [pureRun, onlyP, fnM, mVar, mK, mBin, mUn, mTru, mTest, mAnd, mOr, mNot, mAndV, mOrV, mNotV, mIf, mNil, mCons, mTup, mLst, mLstF, mCall, mChain, mIsi, fIsi, tyD, tyP, mSlice, oNo, oSome, mSeq, srcOf, mRange1, mRange2, sNext, sSeq, sIf, sRet, sRetN, sExpr, sSet, sAsg, sAug, sFor, sRaise, gSet, gMore, gNone, Mp.gTup, mMeth, fAppend, mEnum, srcEnum, mDNew, fLen, fInt, truth, ptruth, asB, pp1, pp2, ret1, dIs, isN, allP, frzD, mFrz, Mp.R.bind, R.thn, RS.seq, List.map_cons, List.map_nil, List.cons_append, List.nil_append, List.length_cons, List.length_nil, List.getElem?_cons_zero, List.getElem?_cons_succ, List.getElem?_nil, List.set_cons_zero, List.set_cons_succ, if_true, ite_true, Nat.reduceAdd, Nat.reduceSub, List.replicate, Bool.false_eq_true, if_false, Bool.not_true, Bool.not_false, mp_ft, mp_tf, isTy, beq_self_eq_true, isi0, isi1, isi2, isi3, isi4, isi5, isi6, isi7, isi8, isi9, isi10, isi11, isi12, isi13, isi14, isi15, isi16, isi17, isi18, isi19, isi20, isi21, isi22, isi23, isi24, isi25, isi26, isi27, isi28, isi29, isi30, isi31, isi32, isi33, isi34, isi35, isi36, isi37, isi38, isi39, isi40, isi41, onlyF, dIx_tup, dIx_lst, dIx_ref, ixAt_0, ixAt_1, ixAt_2, ixAt_3, iEq_int, iNe_int, dAdd, iAdd, iSub, iNeg, iCmp, iLe, iLt, iGe, iGt, dMul, iMulT, iMul, iMod, iDiv, gIx, setIx, decide_true, decide_false, decide_eq_true_eq, Bool.not_eq_true, List.length_map, kFrz, fTuple, lstP, z2, eR, map_map, Function.comp_def])]
  simp only [mVar, mK, mBin, mUn, mTru, mTest, mAnd, mOr, mNot, mAndV, mOrV, mNotV, mIf, mNil, mCons, mTup, mLst, mLstF, mCall, mChain, mIsi, fIsi, tyD, tyP, mSlice, oNo, oSome, mSeq, srcOf, mRange1, mRange2, sNext, sSeq, sIf, sRet, sRetN, sExpr, sSet, sAsg, sAug, sFor, sRaise, gSet, gMore, gNone, Mp.gTup, mMeth, fAppend, mEnum, srcEnum, mDNew, fLen, fInt, truth, ptruth, asB, pp1, pp2, ret1, dIs, isN, allP, frzD, mFrz, List.map_cons, List.map_nil, List.cons_append, List.nil_append, List.length_cons, List.length_nil, List.getElem?_cons_zero, List.getElem?_cons_succ, List.getElem?_nil, List.set_cons_zero, List.set_cons_succ, if_true, ite_true, Nat.reduceAdd, Nat.reduceSub, List.replicate, Bool.false_eq_true, if_false, Bool.not_true, Bool.not_false, mp_ft, mp_tf, isTy, beq_self_eq_true, isi0, isi1, isi2, isi3, isi4, isi5, isi6, isi7, isi8, isi9, isi10, isi11, isi12, isi13, isi14, isi15, isi16, isi17, isi18, isi19, isi20, isi21, isi22, isi23, isi24, isi25, isi26, isi27, isi28, isi29, isi30, isi31, isi32, isi33, isi34, isi35, isi36, isi37, isi38, isi39, isi40, isi41, onlyF, dIx_tup, dIx_lst, dIx_ref, ixAt_0, ixAt_1, ixAt_2, ixAt_3, iEq_int, iNe_int, dAdd, iAdd, iSub, iNeg, iCmp, iLe, iLt, iGe, iGt, dMul, iMulT, iMul, iMod, iDiv, gIx, setIx, decide_true, decide_false, decide_eq_true_eq, Bool.not_eq_true, List.length_map, gets_ok, gets_bind, gets_ite, rsw_ite, rsw_seq, rsw_thn, rsw_nx, rsw_ret, rst_x, rsx_seq, rsx_nx, rsx_ret, rsx_brk, rsx_cont, rsx_ite, rsx_thn, gets_fnM, onlyP, Option.map_some, Src.items, kFrz, allP_map, fTuple, lstP, z2]
  have hm := cut_ok hm0
  have h20 : (Mac.mk m0.n ((m0.rs.take 20).map fun r => ⟨r.fin, r.ss.map (inS (m0.rs.take 20).length)⟩)).rs.length ≤ 20 := by simp; omega
  have eN' : ∀ y : PyData, PyData.tuple [.int (m0.n : Int), y] = PyData.tuple [.int (m0.n : Int), y] := fun _ => rfl
  generalize hmm : (Mac.mk m0.n ((m0.rs.take 20).map fun r => ⟨r.fin, r.ss.map (inS (m0.rs.take 20).length)⟩)) = m at hm h20
  have em : PyData.tuple [.int (m0.n : Int), .tuple ((m0.rs.take 20).map fun r => eR ⟨r.fin, r.ss.map (inS (m0.rs.take 20).length)⟩)] = eM m := by
    rw [← hmm]
    simp [eM, Function.comp_def]
  have en : m0.n = m.n := by rw [← hmm]
  rw [em, en]
  refine with_more_w hm h20 hw1 fun m2 N B w2 hm2 emb hw2 => ?_
  have ht := Mac.trim_ok hm
  have et := Mac.Emb.trim hm hm2 emb
  have h1 := hm.n1
  have h8 := hm.n8
  obtain ⟨_, ⟨L, rfl, hL, hLl⟩, es⟩ := short_eq h1 h8 (s := ⟨[], w2⟩)
  have zL : Mp.sizeOk L.length = true := sizeOk_of (by omega)
  simp only [mVar, mK, mBin, mUn, mTru, mTest, mAnd, mOr, mNot, mAndV, mOrV, mNotV, mIf, mNil, mCons, mTup, mLst, mLstF, mCall, mChain, mIsi, fIsi, tyD, tyP, mSlice, oNo, oSome, mSeq, srcOf, mRange1, mRange2, sNext, sSeq, sIf, sRet, sRetN, sExpr, sSet, sAsg, sAug, sFor, sRaise, gSet, gMore, gNone, Mp.gTup, mMeth, fAppend, mEnum, srcEnum, mDNew, fLen, fInt, truth, ptruth, asB, pp1, pp2, ret1, dIs, isN, allP, frzD, mFrz, List.map_cons, List.map_nil, List.cons_append, List.nil_append, List.length_cons, List.length_nil, List.getElem?_cons_zero, List.getElem?_cons_succ, List.getElem?_nil, List.set_cons_zero, List.set_cons_succ, if_true, ite_true, Nat.reduceAdd, Nat.reduceSub, List.replicate, Bool.false_eq_true, if_false, Bool.not_true, Bool.not_false, mp_ft, mp_tf, isTy, beq_self_eq_true, isi0, isi1, isi2, isi3, isi4, isi5, isi6, isi7, isi8, isi9, isi10, isi11, isi12, isi13, isi14, isi15, isi16, isi17, isi18, isi19, isi20, isi21, isi22, isi23, isi24, isi25, isi26, isi27, isi28, isi29, isi30, isi31, isi32, isi33, isi34, isi35, isi36, isi37, isi38, isi39, isi40, isi41, onlyF, dIx_tup, dIx_lst, dIx_ref, ixAt_0, ixAt_1, ixAt_2, ixAt_3, iEq_int, iNe_int, dAdd, iAdd, iSub, iNeg, iCmp, iLe, iLt, iGe, iGt, dMul, iMulT, iMul, iMod, iDiv, gIx, setIx, decide_true, decide_false, decide_eq_true_eq, Bool.not_eq_true, List.length_map, gets_ok, gets_bind, gets_ite, rsw_ite, rsw_seq, rsw_thn, rsw_nx, rsw_ret, rst_x, rsx_seq, rsx_nx, rsx_ret, rsx_brk, rsx_cont, rsx_ite, rsx_thn, gets_fnM, onlyP, Option.map_some, Src.items, trimmed_eq hm, trimmed_eq hm2, et, ltrimmed_eq hm, iNe_self (shaped_eM ht), es, mLc, wipeE, List.length_map, zL, map_map]
  rw [lc_map (a := fun t : List Nat => D.p (eT t)) (f := fun _ : List Nat => D.p (.bool true)) trivial (fun t htL => by
    obtain ⟨k1, k2⟩ := hL t htL
    have e1 := length_eq hm k1 (by omega) (s := ⟨[], w2⟩)
    have e2 := length_eq hm2 (by rw [emb.n]; exact k1) (by omega) (s := ⟨[], w2⟩)
    rw [← Mac.trim_len hm2, et, Mac.trim_len hm] at e2
    have e3 : iEq (eO (m.len t)) (eO (m.len t)) = some (.bool true) := by rw [iEq_eO]; simp
    have e4 : PyData.tuple [.int (m0.n : Int), .tuple ((m0.rs.take 20).map fun r => eR ⟨r.fin, r.ss.map (inS (m0.rs.take 20).length)⟩)] = eM m := em
    simp only [pureRun, onlyP, fnM, mVar, mK, mBin, mUn, mTru, mTest, mAnd, mOr, mNot, mAndV, mOrV, mNotV, mIf, mNil, mCons, mTup, mLst, mLstF, mCall, mChain, mIsi, fIsi, tyD, tyP, mSlice, oNo, oSome, mSeq, srcOf, mRange1, mRange2, sNext, sSeq, sIf, sRet, sRetN, sExpr, sSet, sAsg, sAug, sFor, sRaise, gSet, gMore, gNone, Mp.gTup, mMeth, fAppend, mEnum, srcEnum, mDNew, fLen, fInt, truth, ptruth, asB, pp1, pp2, ret1, dIs, isN, allP, frzD, mFrz, Mp.R.bind, R.thn, RS.seq, List.map_cons, List.map_nil, List.cons_append, List.nil_append, List.length_cons, List.length_nil, List.getElem?_cons_zero, List.getElem?_cons_succ, List.getElem?_nil, List.set_cons_zero, List.set_cons_succ, if_true, ite_true, Nat.reduceAdd, Nat.reduceSub, List.replicate, Bool.false_eq_true, if_false, Bool.not_true, Bool.not_false, mp_ft, mp_tf, isTy, beq_self_eq_true, isi0, isi1, isi2, isi3, isi4, isi5, isi6, isi7, isi8, isi9, isi10, isi11, isi12, isi13, isi14, isi15, isi16, isi17, isi18, isi19, isi20, isi21, isi22, isi23, isi24, isi25, isi26, isi27, isi28, isi29, isi30, isi31, isi32, isi33, isi34, isi35, isi36, isi37, isi38, isi39, isi40, isi41, onlyF, dIx_tup, dIx_lst, dIx_ref, ixAt_0, ixAt_1, ixAt_2, ixAt_3, iEq_int, iNe_int, dAdd, iAdd, iSub, iNeg, iCmp, iLe, iLt, iGe, iGt, dMul, iMulT, iMul, iMod, iDiv, gIx, setIx, decide_true, decide_false, decide_eq_true_eq, Bool.not_eq_true, List.length_map, e1, e2, e3])]
  have eall : (L.map fun _ => true).all id = true := by simp
  simp only [mVar, mK, mBin, mUn, mTru, mTest, mAnd, mOr, mNot, mAndV, mOrV, mNotV, mIf, mNil, mCons, mTup, mLst, mLstF, mCall, mChain, mIsi, fIsi, tyD, tyP, mSlice, oNo, oSome, mSeq, srcOf, mRange1, mRange2, sNext, sSeq, sIf, sRet, sRetN, sExpr, sSet, sAsg, sAug, sFor, sRaise, gSet, gMore, gNone, Mp.gTup, mMeth, fAppend, mEnum, srcEnum, mDNew, fLen, fInt, truth, ptruth, asB, pp1, pp2, ret1, dIs, isN, allP, frzD, mFrz, List.map_cons, List.map_nil, List.cons_append, List.nil_append, List.length_cons, List.length_nil, List.getElem?_cons_zero, List.getElem?_cons_succ, List.getElem?_nil, List.set_cons_zero, List.set_cons_succ, if_true, ite_true, Nat.reduceAdd, Nat.reduceSub, List.replicate, Bool.false_eq_true, if_false, Bool.not_true, Bool.not_false, mp_ft, mp_tf, isTy, beq_self_eq_true, isi0, isi1, isi2, isi3, isi4, isi5, isi6, isi7, isi8, isi9, isi10, isi11, isi12, isi13, isi14, isi15, isi16, isi17, isi18, isi19, isi20, isi21, isi22, isi23, isi24, isi25, isi26, isi27, isi28, isi29, isi30, isi31, isi32, isi33, isi34, isi35, isi36, isi37, isi38, isi39, isi40, isi41, onlyF, dIx_tup, dIx_lst, dIx_ref, ixAt_0, ixAt_1, ixAt_2, ixAt_3, iEq_int, iNe_int, dAdd, iAdd, iSub, iNeg, iCmp, iLe, iLt, iGe, iGt, dMul, iMulT, iMul, iMod, iDiv, gIx, setIx, decide_true, decide_false, decide_eq_true_eq, Bool.not_eq_true, List.length_map, gets_ok, gets_bind, gets_ite, rsw_ite, rsw_seq, rsw_thn, rsw_nx, rsw_ret, rst_x, rsx_seq, rsx_nx, rsx_ret, rsx_brk, rsx_cont, rsx_ite, rsx_thn, gets_fnM, onlyP, Option.map_some, Src.items, kFrz, allP_map, fAll, lstP, Option.bind_some, Mp.allB_map, eall]
end
end Lw

namespace Lw
open PySem PySem.Spec PyProof.Rows L2 Mp
def dd (x : Str) (st : Stmt) : He.DefD := ⟨(x, none), x, x, defArgs st, defBody st, defScope st, [], []⟩
def dL_0 : List He.DefD := [dd "is_integer" t_is_integer, dd "is_between" t_is_between, dd "is_index" t_is_index, dd "is_tuple_of" t_is_tuple_of, dd "is_size" t_is_size, dd "raw_is_text" t_raw_is_text, dd "is_step" t_is_step, dd "is_row" t_is_row, dd "is_machine" t_is_machine, dd "check_machine" t_check_machine, dd "raw_length" t_raw_length, dd "check_text" t_check_text, dd "length" t_length, dd "reached" t_reached, dd "ending" t_ending, dd "raw_trimmed" t_raw_trimmed, dd "trimmed" t_trimmed, dd "_law_mixed" t__law_mixed, dd "_law_well" t__law_well, dd "_law_filled" t__law_filled, dd "_law_draw" t__law_draw, dd "_law_more" t__law_more, dd "_law_step" t__law_step, dd "_law_end" t__law_end, dd "_law_machine" t__law_machine, dd "_law_nexts" t__law_nexts, dd "_law_reached" t__law_reached, dd "_law_fresh" t__law_fresh, dd "_law_ends" t__law_ends, dd "_law_trimmed" t__law_trimmed]
def dL_1 : List He.DefD := [dd "_law_kept_step" t__law_kept_step, dd "_law_way" t__law_way, dd "_law_short_texts" t__law_short_texts, dd "_law_numbers" t__law_numbers, dd "_law_moved" t__law_moved, dd "_law_into" t__law_into, dd "_law_with_more" t__law_with_more, dd "_law_inside" t__law_inside, dd "law" t_law]
def dL : List He.DefD := dL_0 ++ dL_1
def fL_0 : List He.Fa := [.glo "is_integer", .glo "is_between", .glo "is_index", .glo "is_tuple_of", .glo "is_size", .glo "raw_is_text", .glo "is_step", .glo "is_row", .glo "is_machine", .glo "check_machine", .glo "raw_length", .glo "check_text", .glo "length", .glo "reached", .glo "ending", .glo "raw_trimmed", .glo "trimmed", .glo "_law_mixed", .glo "_law_well", .glo "_law_filled", .glo "_law_draw", .glo "_law_more", .glo "_law_step", .glo "_law_end", .glo "_law_machine", .glo "_law_nexts", .glo "_law_reached", .glo "_law_fresh", .glo "_law_ends", .glo "_law_trimmed"]
def fL_1 : List He.Fa := [.glo "_law_kept_step", .glo "_law_way", .glo "_law_short_texts", .glo "_law_numbers", .glo "_law_moved", .glo "_law_into", .glo "_law_with_more", .glo "_law_inside", .glo "law", .glo "NoMachine", .glo "NoText", .free "all", .free "any", .free "bool", .free "enumerate", .free "int", .free "isinstance", .free "len", .free "range", .free "sorted", .free "tuple", .int "MOST_SIZE" 8, .int "MOST_STATES" 30, .int "MOST_MORE" 60, .int "SIZE" 0, .int "ROWS" 1, .exc "NoMachine", .exc "NoText"]
def fL : List He.Fa := fL_0 ++ fL_1
def nmL_0 : List Str := ["is_integer", "is_between", "is_index", "is_tuple_of", "is_size", "raw_is_text", "is_step", "is_row", "is_machine", "check_machine", "raw_length", "check_text", "length", "reached", "ending", "raw_trimmed", "trimmed", "_law_mixed", "_law_well", "_law_filled", "_law_draw", "_law_more", "_law_step", "_law_end", "_law_machine", "_law_nexts", "_law_reached", "_law_fresh", "_law_ends", "_law_trimmed"]
def nmL_1 : List Str := ["_law_kept_step", "_law_way", "_law_short_texts", "_law_numbers", "_law_moved", "_law_into", "_law_with_more", "_law_inside", "LengthError", "NoMachine", "NoText", "MOST_SIZE", "MOST_STATES", "MOST_MORE", "SIZE", "ROWS"]
def nmL : List Str := nmL_0 ++ nmL_1
abbrev R : PySem.W.OpenRow := PySem.W.OpenLaw.row PySem.Challenge.rw_keptlengths_k04_whole_states_without_use
abbrev hk : PySem.W.Hook := He.hookD 4 fL dL
def ob (s : PySem.W.SharedT) : He.AlD := He.obsDG 4 fL dL (HandSHeadRun.getT s)
theorem ob_eq (s : PySem.W.SharedT) : ob s = hk.obs s.abs := He.obsDG_eq (HandSHeadRun.getT_eq s)
theorem run (w : World) : HandSHeadRun.RunEq R (PySem.W.view R.prog [50]) hk ob 20000 nmL w := by
  intro os
  kernel_rfl
theorem says_fact {K : PySem.W.Frag} (c : He.SaysD fL dL K) {f : He.Fa} (h : f ∈ fL) : f.ok K = true := by
  obtain ⟨i, hi, e⟩ := List.mem_iff_getElem.mp h
  exact c.fact i (by rw [← e]; exact List.getElem?_eq_getElem hi)
theorem says_def {K : PySem.W.Frag} {h : Heap} {mg : Str → Option Value} (X : K.In h) (G : h.Ns mainGlobals mg) (c : He.SaysD fL dL K) {x : Str} {st : Stmt} (hd : dd x st ∈ dL) (hf : He.Fa.glo x ∈ fL) : DefAt K mg x st := by
  obtain ⟨i, hi, e⟩ := List.mem_iff_getElem.mp hd
  obtain ⟨fd, F⟩ := c.def_ i (d := dd x st) (by rw [← e]; exact List.getElem?_eq_getElem hi)
  exact ⟨_, fd, F, He.glo_ok X G (says_fact c hf)⟩
theorem nm {K : PySem.W.Frag} {h : Heap} {mg : Str → Option Value} (X : K.In h) (G : h.Ns mainGlobals mg) (c : He.SaysD fL dL K) : Nm K mg where
  f_all := He.free_ok X G (c.fact 41 rfl)
  f_any := He.free_ok X G (c.fact 42 rfl)
  f_bool := He.free_ok X G (c.fact 43 rfl)
  f_enumerate := He.free_ok X G (c.fact 44 rfl)
  f_int := He.free_ok X G (c.fact 45 rfl)
  f_isinstance := He.free_ok X G (c.fact 46 rfl)
  f_len := He.free_ok X G (c.fact 47 rfl)
  f_range := He.free_ok X G (c.fact 48 rfl)
  f_sorted := He.free_ok X G (c.fact 49 rfl)
  f_tuple := He.free_ok X G (c.fact 50 rfl)
  i_MOST_SIZE := He.int_ok X G (c.fact 51 rfl)
  i_MOST_STATES := He.int_ok X G (c.fact 52 rfl)
  i_MOST_MORE := He.int_ok X G (c.fact 53 rfl)
  i_SIZE := He.int_ok X G (c.fact 54 rfl)
  i_ROWS := He.int_ok X G (c.fact 55 rfl)
  d_is_integer := by
    obtain ⟨fd, F⟩ := c.def_ 0 (d := dd "is_integer" t_is_integer) rfl
    exact ⟨_, fd, F, He.glo_ok X G (c.fact 0 rfl)⟩
  d_is_between := by
    obtain ⟨fd, F⟩ := c.def_ 1 (d := dd "is_between" t_is_between) rfl
    exact ⟨_, fd, F, He.glo_ok X G (c.fact 1 rfl)⟩
  d_is_index := by
    obtain ⟨fd, F⟩ := c.def_ 2 (d := dd "is_index" t_is_index) rfl
    exact ⟨_, fd, F, He.glo_ok X G (c.fact 2 rfl)⟩
  d_is_tuple_of := by
    obtain ⟨fd, F⟩ := c.def_ 3 (d := dd "is_tuple_of" t_is_tuple_of) rfl
    exact ⟨_, fd, F, He.glo_ok X G (c.fact 3 rfl)⟩
  d_is_size := by
    obtain ⟨fd, F⟩ := c.def_ 4 (d := dd "is_size" t_is_size) rfl
    exact ⟨_, fd, F, He.glo_ok X G (c.fact 4 rfl)⟩
  d_raw_is_text := by
    obtain ⟨fd, F⟩ := c.def_ 5 (d := dd "raw_is_text" t_raw_is_text) rfl
    exact ⟨_, fd, F, He.glo_ok X G (c.fact 5 rfl)⟩
  d_is_step := by
    obtain ⟨fd, F⟩ := c.def_ 6 (d := dd "is_step" t_is_step) rfl
    exact ⟨_, fd, F, He.glo_ok X G (c.fact 6 rfl)⟩
  d_is_row := by
    obtain ⟨fd, F⟩ := c.def_ 7 (d := dd "is_row" t_is_row) rfl
    exact ⟨_, fd, F, He.glo_ok X G (c.fact 7 rfl)⟩
  d_is_machine := by
    obtain ⟨fd, F⟩ := c.def_ 8 (d := dd "is_machine" t_is_machine) rfl
    exact ⟨_, fd, F, He.glo_ok X G (c.fact 8 rfl)⟩
  d_check_machine := by
    obtain ⟨fd, F⟩ := c.def_ 9 (d := dd "check_machine" t_check_machine) rfl
    exact ⟨_, fd, F, He.glo_ok X G (c.fact 9 rfl)⟩
  d_raw_length := by
    obtain ⟨fd, F⟩ := c.def_ 10 (d := dd "raw_length" t_raw_length) rfl
    exact ⟨_, fd, F, He.glo_ok X G (c.fact 10 rfl)⟩
  d_check_text := by
    obtain ⟨fd, F⟩ := c.def_ 11 (d := dd "check_text" t_check_text) rfl
    exact ⟨_, fd, F, He.glo_ok X G (c.fact 11 rfl)⟩
  d_length := by
    obtain ⟨fd, F⟩ := c.def_ 12 (d := dd "length" t_length) rfl
    exact ⟨_, fd, F, He.glo_ok X G (c.fact 12 rfl)⟩
  d_reached := by
    obtain ⟨fd, F⟩ := c.def_ 13 (d := dd "reached" t_reached) rfl
    exact ⟨_, fd, F, He.glo_ok X G (c.fact 13 rfl)⟩
  d_ending := by
    obtain ⟨fd, F⟩ := c.def_ 14 (d := dd "ending" t_ending) rfl
    exact ⟨_, fd, F, He.glo_ok X G (c.fact 14 rfl)⟩
  d_raw_trimmed := by
    obtain ⟨fd, F⟩ := c.def_ 15 (d := dd "raw_trimmed" t_raw_trimmed) rfl
    exact ⟨_, fd, F, He.glo_ok X G (c.fact 15 rfl)⟩
  d_trimmed := by
    obtain ⟨fd, F⟩ := c.def_ 16 (d := dd "trimmed" t_trimmed) rfl
    exact ⟨_, fd, F, He.glo_ok X G (c.fact 16 rfl)⟩
  d__law_mixed := by
    obtain ⟨fd, F⟩ := c.def_ 17 (d := dd "_law_mixed" t__law_mixed) rfl
    exact ⟨_, fd, F, He.glo_ok X G (c.fact 17 rfl)⟩
  d__law_well := by
    obtain ⟨fd, F⟩ := c.def_ 18 (d := dd "_law_well" t__law_well) rfl
    exact ⟨_, fd, F, He.glo_ok X G (c.fact 18 rfl)⟩
  d__law_filled := by
    obtain ⟨fd, F⟩ := c.def_ 19 (d := dd "_law_filled" t__law_filled) rfl
    exact ⟨_, fd, F, He.glo_ok X G (c.fact 19 rfl)⟩
  d__law_draw := by
    obtain ⟨fd, F⟩ := c.def_ 20 (d := dd "_law_draw" t__law_draw) rfl
    exact ⟨_, fd, F, He.glo_ok X G (c.fact 20 rfl)⟩
  d__law_more := by
    obtain ⟨fd, F⟩ := c.def_ 21 (d := dd "_law_more" t__law_more) rfl
    exact ⟨_, fd, F, He.glo_ok X G (c.fact 21 rfl)⟩
  d__law_step := by
    obtain ⟨fd, F⟩ := c.def_ 22 (d := dd "_law_step" t__law_step) rfl
    exact ⟨_, fd, F, He.glo_ok X G (c.fact 22 rfl)⟩
  d__law_end := by
    obtain ⟨fd, F⟩ := c.def_ 23 (d := dd "_law_end" t__law_end) rfl
    exact ⟨_, fd, F, He.glo_ok X G (c.fact 23 rfl)⟩
  d__law_machine := by
    obtain ⟨fd, F⟩ := c.def_ 24 (d := dd "_law_machine" t__law_machine) rfl
    exact ⟨_, fd, F, He.glo_ok X G (c.fact 24 rfl)⟩
  d__law_nexts := by
    obtain ⟨fd, F⟩ := c.def_ 25 (d := dd "_law_nexts" t__law_nexts) rfl
    exact ⟨_, fd, F, He.glo_ok X G (c.fact 25 rfl)⟩
  d__law_reached := by
    obtain ⟨fd, F⟩ := c.def_ 26 (d := dd "_law_reached" t__law_reached) rfl
    exact ⟨_, fd, F, He.glo_ok X G (c.fact 26 rfl)⟩
  d__law_fresh := by
    obtain ⟨fd, F⟩ := c.def_ 27 (d := dd "_law_fresh" t__law_fresh) rfl
    exact ⟨_, fd, F, He.glo_ok X G (c.fact 27 rfl)⟩
  d__law_ends := by
    obtain ⟨fd, F⟩ := c.def_ 28 (d := dd "_law_ends" t__law_ends) rfl
    exact ⟨_, fd, F, He.glo_ok X G (c.fact 28 rfl)⟩
  d__law_trimmed := by
    obtain ⟨fd, F⟩ := c.def_ 29 (d := dd "_law_trimmed" t__law_trimmed) rfl
    exact ⟨_, fd, F, He.glo_ok X G (c.fact 29 rfl)⟩
  d__law_kept_step := by
    obtain ⟨fd, F⟩ := c.def_ 30 (d := dd "_law_kept_step" t__law_kept_step) rfl
    exact ⟨_, fd, F, He.glo_ok X G (c.fact 30 rfl)⟩
  d__law_way := by
    obtain ⟨fd, F⟩ := c.def_ 31 (d := dd "_law_way" t__law_way) rfl
    exact ⟨_, fd, F, He.glo_ok X G (c.fact 31 rfl)⟩
  d__law_short_texts := by
    obtain ⟨fd, F⟩ := c.def_ 32 (d := dd "_law_short_texts" t__law_short_texts) rfl
    exact ⟨_, fd, F, He.glo_ok X G (c.fact 32 rfl)⟩
  d__law_numbers := by
    obtain ⟨fd, F⟩ := c.def_ 33 (d := dd "_law_numbers" t__law_numbers) rfl
    exact ⟨_, fd, F, He.glo_ok X G (c.fact 33 rfl)⟩
  d__law_moved := by
    obtain ⟨fd, F⟩ := c.def_ 34 (d := dd "_law_moved" t__law_moved) rfl
    exact ⟨_, fd, F, He.glo_ok X G (c.fact 34 rfl)⟩
  d__law_into := by
    obtain ⟨fd, F⟩ := c.def_ 35 (d := dd "_law_into" t__law_into) rfl
    exact ⟨_, fd, F, He.glo_ok X G (c.fact 35 rfl)⟩
  d__law_with_more := by
    obtain ⟨fd, F⟩ := c.def_ 36 (d := dd "_law_with_more" t__law_with_more) rfl
    exact ⟨_, fd, F, He.glo_ok X G (c.fact 36 rfl)⟩
  d__law_inside := by
    obtain ⟨fd, F⟩ := c.def_ 37 (d := dd "_law_inside" t__law_inside) rfl
    exact ⟨_, fd, F, He.glo_ok X G (c.fact 37 rfl)⟩
  d_law := by
    obtain ⟨fd, F⟩ := c.def_ 38 (d := dd "law" t_law) rfl
    exact ⟨_, fd, F, He.glo_ok X G (c.fact 38 rfl)⟩
  x_NoMachine := by
    obtain ⟨h1, h2, h3, h4⟩ := He.exc_ok (c.fact 56 (f := .exc "NoMachine") rfl)
    exact ⟨_, He.glo_ok X G (c.fact 39 rfl), h1, h2, h3, h4⟩
  x_NoText := by
    obtain ⟨h1, h2, h3, h4⟩ := He.exc_ok (c.fact 57 (f := .exc "NoText") rfl)
    exact ⟨_, He.glo_ok X G (c.fact 40 rfl), h1, h2, h3, h4⟩
end Lw
open PySem PySem.W PySem.Calls PyProof.Rows in
set_option maxHeartbeats 0 in
theorem PySem.Challenge.cw_keptlengths_k04_whole_states_without_use_holds : PySem.Challenge.rw_keptlengths_k04_whole_states_without_use.Holds := by
  w_on; o_law
  refine HandSHeadRun.head_any (r := OpenLaw.row PySem.Challenge.rw_keptlengths_k04_whole_states_without_use) (q := view (OpenLaw.row PySem.Challenge.rw_keptlengths_k04_whole_states_without_use).prog [50]) (H := Lw.hk) (ob := Lw.ob) (M := 20000) (loose := Lw.nmL) (d := HandSHeadRun.topDef (OpenLaw.row PySem.Challenge.rw_keptlengths_k04_whole_states_without_use).prog 50) (kwd := []) Lw.ob_eq
    (by kernel_rfl) (fun s => by kernel_rfl) Lw.run (by kernel_rfl) (by kernel_rfl) (by kernel_rfl) (by rfl) (by first | assumption | decide +kernel) (by decide +kernel) ⟨rfl, rfl, rfl, rfl, rfl, by decide +kernel⟩ ?hw ?hc
  case hw => w_witness2
  case hc =>
    refine L2.walk_ofE (l := PySem.Challenge.rw_keptlengths_k04_whole_states_without_use) (n := 63) (k := 9) (x := "_law_script") (CX := L2.CX0) rfl (by decide) (by kernel_rfl) ⟨rfl, by decide, by decide⟩ ?F (fun _ _ _ _ z => z)
    intro w mg fa h Y G hmg0
    obtain ⟨K, KX, c⟩ := Y
    have hmg : mg ("law" : PySem.Str) = some (.ref fa) := by
      have e : (HandSHeadRun.topDef (OpenLaw.row PySem.Challenge.rw_keptlengths_k04_whole_states_without_use).prog 50).name = ("law" : PySem.Str) := by kernel_rfl
      rw [← e]
      exact hmg0
    exact Mp.law_end KX (Lw.nm KX G c).d_law Lw.bn_law hmg (fun base => Lw.ok_law (Lw.nm KX G c)) Lw.law_true
