import PyProof.Rows.All
import Wide.All
import OpenK.AllK
import Wide.FinOn
import HandS.ForMost
import HandS.Wide
import HandS.Exc
import HandS.Flow
import HandS.TupAny
import HandS.Style
import HandS.WideBits
import HandS.RaiseMore
import HandS.IsInst
import PyProof.ReprRoads
import HandS.Iter
import HandS.More
import HandS.Replace
import HandS.NoneIn
import KE.GoesEnum
import HandS.DictComp
import KE.KUnpackStar
import HandS.Words
import PySem.Challenge.RW_pointhalls_k16_what_hangs_on_what
set_option Elab.async false
set_option linter.all false
set_option maxRecDepth 100000
set_option autoImplicit false
/-! Pd, part 1: plain data, a store of things that change, and how they stand in the hand layer's heap. -/
namespace Pd
open PySem L2

/-- a value: what never changes is a tree; what may change is a number in the store -/
inductive Val where
  | non | bl (b : Bool) | int (i : Int) | str (x : Str)
  | tup (xs : List Val)
  | ins (c : Nat) (fs : List Val)
  | scr (ns : List Int)
  | ref (i : Nat)

/-- keys of dicts -/
abbrev DKey := Sum Int Str

inductive Cell where
  | lst (xs : List Val)
  | dct (kvs : List (DKey × Val))
  | dtt (kvs : List (List DKey × Val))
  | obj (c : Nat) (fs : List (Str × Val))

abbrev Store := List Cell
abbrev Env := List (Option Val)

/-- an exception: its class's number, its fields -/
structure Exn where
  cls : Nat
  fs : List (Str × Val)

inductive Res (α : Type) where
  | ok (a : α) (S : Store)
  | exc (x : Exn) (S : Store)
  | bad

def M (α : Type) := Store → Res α
@[inline] def M.pure {α : Type} (a : α) : M α := fun S => .ok a S
@[inline] def M.bind {α β : Type} (m : M α) (f : α → M β) : M β := fun S => match m S with
  | .ok a S' => f a S'
  | .exc x S' => .exc x S'
  | .bad => .bad
instance : Monad M where
  pure := M.pure
  bind := M.bind
def stuck {α : Type} : M α := fun _ => .bad
def need (b : Bool) : M Unit := fun S => if b then .ok () S else .bad
def ofOpt {α : Type} (o : Option α) : M α := fun S => match o with
  | some a => .ok a S
  | none => .bad

/-! ### the world: the written part, the classes -/
structure Wd where
  K : PySem.W.Frag
  cls : Nat → Option (Addr × List Str)
  exc : Nat → Option Addr

/-- a tuple that never changes: tracked apart from the store, or of the module -/
def StT (w : Wd) (ρ : List Addr) (H : Hp) (a : Addr) (vs : List V) : Prop :=
  (a ∉ ρ ∧ Rd H a (.tup vs)) ∨
    ∃ (o : Obj) (its : Array Value) (n : Nat), w.K.lookup a = some o ∧ o.cls = .type "tuple" ∧ o.data = .seq its n ∧ its.size ≤ sizeLine ∧ Vals vs its.toList
def StL (w : Wd) (ρ : List Addr) (H : Hp) (a : Addr) (vs : List V) : Prop :=
  (a ∉ ρ ∧ ∃ o, H a = some (.frz o (.lst vs))) ∨
    ∃ (o : Obj) (its : Array Value) (n : Nat), w.K.lookup a = some o ∧ o.cls = .type "list" ∧ o.dict = none ∧ o.data = .seq its n ∧ its.size ≤ sizeLine ∧ Vals vs its.toList

mutual
def RepV (w : Wd) (ρ : List Addr) (H : Hp) : Val → V → Prop
  | .non, v => v = .non
  | .bl b, v => v = .bl b
  | .int i, v => v = .int i
  | .str x, v => v = .str x
  | .tup xs, v => ∃ a vs, v = .ref a ∧ StT w ρ H a vs ∧ RepVs w ρ H xs vs
  | .ins c fs, v => ∃ p C dx ns vs, v = .ref p ∧ w.cls c = some (C, ns) ∧ p ∉ ρ ∧ H p = some (.ins C dx (ns.zip vs)) ∧ ns.length = vs.length ∧ RepVs w ρ H fs vs
  | .scr ns, v => ∃ a, v = .ref a ∧ StL w ρ H a (ns.map V.int)
  | .ref i, v => ∃ a, v = .ref a ∧ ρ[i]? = some a
def RepVs (w : Wd) (ρ : List Addr) (H : Hp) : List Val → List V → Prop
  | [], vs => vs = []
  | x :: xs, vs => ∃ v r, vs = v :: r ∧ RepV w ρ H x v ∧ RepVs w ρ H xs r
end

/-- pairs with the same first parts -/
def RepKV {κ : Type} (w : Wd) (ρ : List Addr) (H : Hp) : List (κ × Val) → List (κ × V) → Prop
  | [], vs => vs = []
  | (k, x) :: xs, vs => ∃ v r, vs = (k, v) :: r ∧ RepV w ρ H x v ∧ RepKV w ρ H xs r

def RepC (w : Wd) (ρ : List Addr) (H : Hp) : Cell → HO → Prop
  | .lst xs, o => ∃ vs, o = .lst vs ∧ RepVs w ρ H xs vs
  | .dct kvs, o => ∃ vs, o = .dK vs ∧ RepKV w ρ H kvs vs
  | .dtt kvs, o => ∃ vs, o = .dT vs ∧ RepKV w ρ H kvs vs
  | .obj c fs, o => ∃ C dx ns vs, o = .ins C dx vs ∧ w.cls c = some (C, ns) ∧ RepKV w ρ H fs vs

structure RepS (w : Wd) (ρ : List Addr) (H : Hp) (S : Store) : Prop where
  len : ρ.length = S.length
  nd : ρ.Nodup
  cell : ∀ (i : Nat) (a : Addr) (c : Cell), ρ[i]? = some a → S[i]? = some c → ∃ o, H a = some o ∧ RepC w ρ H c o

/-- the heap and the store's places, later -/
structure Ext (ρ : List Addr) (H : Hp) (ρ' : List Addr) (H' : Hp) : Prop where
  pre : ∃ more, ρ' = ρ ++ more ∧ ∀ a ∈ more, H a = none
  oth : ∀ a o, H a = some o → a ∉ ρ → H' a = some o
  mono : ∀ a o, H a = some o → ∃ o', H' a = some o'

theorem Ext.refl (ρ : List Addr) (H : Hp) : Ext ρ H ρ H := ⟨⟨[], by simp, fun _ h => nomatch h⟩, fun _ _ h _ => h, fun _ o h => ⟨o, h⟩⟩
theorem Ext.out {ρ ρ' : List Addr} {H H' : Hp} (e : Ext ρ H ρ' H') {a : Addr} {o : HO} (h : H a = some o) (n : a ∉ ρ) : a ∉ ρ' := by
  obtain ⟨m, rfl, hm⟩ := e.pre
  intro z
  rcases List.mem_append.mp z with z | z
  · exact n z
  · rw [hm a z] at h; cases h
theorem Ext.trans {ρ ρ1 ρ2 : List Addr} {H H1 H2 : Hp} (e : Ext ρ H ρ1 H1) (f : Ext ρ1 H1 ρ2 H2) : Ext ρ H ρ2 H2 := by
  refine ⟨?_, fun a o h n => f.oth a o (e.oth a o h n) (e.out h n), fun a o h => ?_⟩
  · obtain ⟨m, rfl, hm⟩ := e.pre
    obtain ⟨m2, rfl, hm2⟩ := f.pre
    refine ⟨m ++ m2, by simp, fun a ha => ?_⟩
    rcases List.mem_append.mp ha with z | z
    · exact hm a z
    · cases q : H a with
      | none => rfl
      | some o =>
        obtain ⟨o', h'⟩ := e.mono a o q
        rw [hm2 a z] at h'; cases h'
  · obtain ⟨o1, h1⟩ := e.mono a o h
    exact f.mono a o1 h1

theorem StT.ext {w : Wd} {ρ ρ' : List Addr} {H H' : Hp} {a : Addr} {vs : List V} (e : Ext ρ H ρ' H') (h : StT w ρ H a vs) : StT w ρ' H' a vs := by
  rcases h with ⟨n, h | ⟨o, h⟩⟩ | h
  · exact .inl ⟨e.out h n, .inl (e.oth _ _ h n)⟩
  · exact .inl ⟨e.out h n, .inr ⟨o, e.oth _ _ h n⟩⟩
  · exact .inr h
theorem StL.ext {w : Wd} {ρ ρ' : List Addr} {H H' : Hp} {a : Addr} {vs : List V} (e : Ext ρ H ρ' H') (h : StL w ρ H a vs) : StL w ρ' H' a vs := by
  rcases h with ⟨n, o, h⟩ | h
  · exact .inl ⟨e.out h n, o, e.oth _ _ h n⟩
  · exact .inr h
theorem StT.sq {w : Wd} {ρ : List Addr} {H : Hp} {a : Addr} {vs : List V} (h : StT w ρ H a vs) : SqT w.K H a vs := by
  rcases h with ⟨_, h⟩ | h
  · exact .inl h
  · exact .inr h
theorem StL.sq {w : Wd} {ρ : List Addr} {H : Hp} {a : Addr} {vs : List V} (h : StL w ρ H a vs) : SqL w.K H a vs := by
  rcases h with ⟨_, h⟩ | h
  · exact .inl (.inr h)
  · exact .inr h

mutual
theorem RepV.ext {w : Wd} {ρ ρ' : List Addr} {H H' : Hp} (e : Ext ρ H ρ' H') : ∀ (x : Val) (v : V), RepV w ρ H x v → RepV w ρ' H' x v
  | .non, _, h => by simpa only [RepV] using h
  | .bl _, _, h => by simpa only [RepV] using h
  | .int _, _, h => by simpa only [RepV] using h
  | .str _, _, h => by simpa only [RepV] using h
  | .tup xs, v, h => by
    simp only [RepV] at h ⊢
    obtain ⟨a, vs, h1, h2, h3⟩ := h
    exact ⟨a, vs, h1, h2.ext e, RepVs.ext e xs vs h3⟩
  | .ins c fs, v, h => by
    simp only [RepV] at h ⊢
    obtain ⟨p, C, dx, ns, vs, h1, h2, h3, h4, h5, h6⟩ := h
    exact ⟨p, C, dx, ns, vs, h1, h2, e.out h4 h3, e.oth _ _ h4 h3, h5, RepVs.ext e fs vs h6⟩
  | .scr ns, v, h => by
    simp only [RepV] at h ⊢
    obtain ⟨a, h1, h2⟩ := h
    exact ⟨a, h1, h2.ext e⟩
  | .ref i, v, h => by
    simp only [RepV] at h ⊢
    obtain ⟨a, h1, h2⟩ := h
    obtain ⟨m, rfl, _⟩ := e.pre
    refine ⟨a, h1, ?_⟩
    have hi : i < ρ.length := (List.getElem?_eq_some_iff.mp h2).1
    rw [List.getElem?_append_left hi]; exact h2
theorem RepVs.ext {w : Wd} {ρ ρ' : List Addr} {H H' : Hp} (e : Ext ρ H ρ' H') : ∀ (xs : List Val) (vs : List V), RepVs w ρ H xs vs → RepVs w ρ' H' xs vs
  | [], _, h => by simpa only [RepVs] using h
  | x :: xs, vs, h => by
    simp only [RepVs] at h ⊢
    obtain ⟨v, r, h1, h2, h3⟩ := h
    exact ⟨v, r, h1, RepV.ext e x v h2, RepVs.ext e xs r h3⟩
end
theorem RepKV.ext {κ : Type} {w : Wd} {ρ ρ' : List Addr} {H H' : Hp} (e : Ext ρ H ρ' H') : ∀ (xs : List (κ × Val)) (vs : List (κ × V)), RepKV w ρ H xs vs → RepKV w ρ' H' xs vs
  | [], _, h => by simpa only [RepKV] using h
  | (k, x) :: xs, vs, h => by
    simp only [RepKV] at h ⊢
    obtain ⟨v, r, h1, h2, h3⟩ := h
    exact ⟨v, r, h1, RepV.ext e x v h2, RepKV.ext e xs r h3⟩
theorem RepC.ext {w : Wd} {ρ ρ' : List Addr} {H H' : Hp} (e : Ext ρ H ρ' H') : ∀ (c : Cell) (o : HO), RepC w ρ H c o → RepC w ρ' H' c o
  | .lst xs, o, ⟨vs, h1, h2⟩ => ⟨vs, h1, RepVs.ext e xs vs h2⟩
  | .dct xs, o, ⟨vs, h1, h2⟩ => ⟨vs, h1, RepKV.ext e xs vs h2⟩
  | .dtt xs, o, ⟨vs, h1, h2⟩ => ⟨vs, h1, RepKV.ext e xs vs h2⟩
  | .obj c fs, o, ⟨C, dx, ns, vs, h1, h2, h3⟩ => ⟨C, dx, ns, vs, h1, h2, RepKV.ext e fs vs h3⟩

theorem RepVs.length {w : Wd} {ρ : List Addr} {H : Hp} : ∀ {xs : List Val} {vs : List V}, RepVs w ρ H xs vs → vs.length = xs.length
  | [], _, h => by simp only [RepVs] at h; subst h; rfl
  | x :: xs, _, h => by
    simp only [RepVs] at h
    obtain ⟨v, r, rfl, _, h3⟩ := h
    simp [RepVs.length h3]
theorem RepVs.get {w : Wd} {ρ : List Addr} {H : Hp} : ∀ {xs : List Val} {vs : List V} {i : Nat} {x : Val}, RepVs w ρ H xs vs → xs[i]? = some x → ∃ v, vs[i]? = some v ∧ RepV w ρ H x v
  | [], _, _, _, _, e => by simp at e
  | x :: xs, _, 0, y, h, e => by
    simp only [RepVs] at h
    obtain ⟨v, r, rfl, h2, _⟩ := h
    simp at e; subst e
    exact ⟨v, by simp, h2⟩
  | x :: xs, _, i + 1, y, h, e => by
    simp only [RepVs] at h
    obtain ⟨v, r, rfl, _, h3⟩ := h
    obtain ⟨u, h1, h2⟩ := RepVs.get (i := i) h3 (by simpa using e)
    exact ⟨u, by simpa using h1, h2⟩
theorem RepVs.append {w : Wd} {ρ : List Addr} {H : Hp} : ∀ {xs : List Val} {vs : List V} {ys : List Val} {us : List V}, RepVs w ρ H xs vs → RepVs w ρ H ys us → RepVs w ρ H (xs ++ ys) (vs ++ us)
  | [], _, _, _, h, g => by simp only [RepVs] at h; subst h; simpa using g
  | x :: xs, _, _, _, h, g => by
    simp only [RepVs] at h
    obtain ⟨v, r, rfl, h2, h3⟩ := h
    simp only [List.cons_append, RepVs]
    exact ⟨v, _, rfl, h2, RepVs.append h3 g⟩
theorem RepVs.take {w : Wd} {ρ : List Addr} {H : Hp} : ∀ {xs : List Val} {vs : List V} (n : Nat), RepVs w ρ H xs vs → RepVs w ρ H (xs.take n) (vs.take n)
  | [], _, n, h => by simp only [RepVs] at h; subst h; simp [RepVs]
  | x :: xs, _, 0, h => by simp [RepVs]
  | x :: xs, _, n + 1, h => by
    simp only [RepVs] at h
    obtain ⟨v, r, rfl, h2, h3⟩ := h
    simp only [List.take_succ_cons, RepVs]
    exact ⟨v, _, rfl, h2, RepVs.take n h3⟩
theorem RepVs.drop {w : Wd} {ρ : List Addr} {H : Hp} : ∀ {xs : List Val} {vs : List V} (n : Nat), RepVs w ρ H xs vs → RepVs w ρ H (xs.drop n) (vs.drop n)
  | [], _, n, h => by simp only [RepVs] at h; subst h; simp [RepVs]
  | x :: xs, _, 0, h => by simpa using h
  | x :: xs, _, n + 1, h => by
    simp only [RepVs] at h
    obtain ⟨v, r, rfl, h2, h3⟩ := h
    simpa using RepVs.drop n h3
theorem RepVs.set {w : Wd} {ρ : List Addr} {H : Hp} {y : Val} {u : V} (q : RepV w ρ H y u) : ∀ {xs : List Val} {vs : List V} (i : Nat), RepVs w ρ H xs vs → RepVs w ρ H (xs.set i y) (vs.set i u)
  | [], _, i, h => by simp only [RepVs] at h; subst h; simp [RepVs]
  | x :: xs, _, 0, h => by
    simp only [RepVs] at h
    obtain ⟨v, r, rfl, h2, h3⟩ := h
    simp only [List.set_cons_zero, RepVs]
    exact ⟨u, r, rfl, q, h3⟩
  | x :: xs, _, i + 1, h => by
    simp only [RepVs] at h
    obtain ⟨v, r, rfl, h2, h3⟩ := h
    simp only [List.set_cons_succ, RepVs]
    exact ⟨v, _, rfl, h2, RepVs.set q i h3⟩
theorem RepVs.reverse {w : Wd} {ρ : List Addr} {H : Hp} : ∀ {xs : List Val} {vs : List V}, RepVs w ρ H xs vs → RepVs w ρ H xs.reverse vs.reverse
  | [], _, h => by simp only [RepVs] at h; subst h; simp [RepVs]
  | x :: xs, _, h => by
    simp only [RepVs] at h
    obtain ⟨v, r, rfl, h2, h3⟩ := h
    simp only [List.reverse_cons]
    refine RepVs.append (RepVs.reverse h3) ?_
    simp only [RepVs]
    exact ⟨v, [], rfl, h2, rfl⟩
theorem RepVs.ints {w : Wd} {ρ : List Addr} {H : Hp} : ∀ (ns : List Int), RepVs w ρ H (ns.map Val.int) (ns.map V.int)
  | [] => by simp [RepVs]
  | n :: ns => by
    simp only [List.map_cons, RepVs]
    exact ⟨_, _, rfl, by simp [RepV], RepVs.ints ns⟩

/-! ### the store's steps -/
section
variable {w : Wd} {ρ : List Addr} {H : Hp} {S : Store}
theorem RepS.there (r : RepS w ρ H S) {a : Addr} (h : a ∈ ρ) : ∃ (i : Nat) (c : Cell) (o : HO), ρ[i]? = some a ∧ S[i]? = some c ∧ H a = some o ∧ RepC w ρ H c o := by
  obtain ⟨i, hi⟩ := List.getElem?_of_mem h
  have hl : i < S.length := by rw [← r.len]; exact (List.getElem?_eq_some_iff.mp hi).1
  obtain ⟨o, h1, h2⟩ := r.cell i a _ hi (List.getElem?_eq_getElem hl)
  exact ⟨i, _, o, hi, List.getElem?_eq_getElem hl, h1, h2⟩
theorem RepS.none_out (r : RepS w ρ H S) {p : Addr} (h : H p = none) : p ∉ ρ := fun z => by
  obtain ⟨_, _, _, _, _, q, _⟩ := r.there z
  rw [h] at q; cases q
/-- a new thing that isn't the store's -/
theorem Ext.new (r : RepS w ρ H S) {p : Addr} {o : HO} (h : H p = none) : Ext ρ H ρ (upd H p o) :=
  ⟨⟨[], by simp, fun _ z => nomatch z⟩, fun a u e n => by rw [upd_ne (ne_of_none e h)]; exact e, fun a u e => ⟨u, by rw [upd_ne (ne_of_none e h)]; exact e⟩⟩
theorem RepS.new (r : RepS w ρ H S) {p : Addr} {o : HO} (h : H p = none) : RepS w ρ (upd H p o) S :=
  ⟨r.len, r.nd, fun i a c h1 h2 => by
    obtain ⟨u, e, q⟩ := r.cell i a c h1 h2
    exact ⟨u, by rw [upd_ne (ne_of_none e h)]; exact e, q.ext (Ext.new r h)⟩⟩
/-- a new thing of the store's -/
theorem Ext.push (r : RepS w ρ H S) {p : Addr} {o : HO} (h : H p = none) : Ext ρ H (ρ ++ [p]) (upd H p o) :=
  ⟨⟨[p], rfl, fun a z => by simp at z; subst z; exact h⟩, fun a u e n => by rw [upd_ne (ne_of_none e h)]; exact e, fun a u e => ⟨u, by rw [upd_ne (ne_of_none e h)]; exact e⟩⟩
theorem RepS.push (r : RepS w ρ H S) {p : Addr} {o : HO} {c : Cell} (h : H p = none) (q : RepC w (ρ ++ [p]) (upd H p o) c o) : RepS w (ρ ++ [p]) (upd H p o) (S ++ [c]) := by
  have np := r.none_out h
  refine ⟨by simp [r.len], ?_, fun i a c' h1 h2 => ?_⟩
  · rw [List.nodup_append]
    exact ⟨r.nd, by simp, fun a ha b hb => by simp at hb; subst hb; exact fun z => np (z ▸ ha)⟩
  · by_cases hi : i < ρ.length
    · rw [List.getElem?_append_left hi] at h1
      rw [List.getElem?_append_left (by rw [← r.len]; exact hi)] at h2
      obtain ⟨u, e, z⟩ := r.cell i a c' h1 h2
      exact ⟨u, by rw [upd_ne (ne_of_none e h)]; exact e, z.ext (Ext.push r h)⟩
    · have hl : i < (ρ ++ [p]).length := (List.getElem?_eq_some_iff.mp h1).1
      have e : i = ρ.length := by simp at hl; omega
      subst e
      rw [List.getElem?_append_right (Nat.le_refl _)] at h1
      rw [r.len, List.getElem?_append_right (Nat.le_refl _)] at h2
      simp at h1 h2
      subst h1; subst h2
      exact ⟨o, upd_same, q⟩
/-- a thing of the store's is written -/
theorem Ext.set {i : Nat} {a : Addr} {o : HO} (h : ρ[i]? = some a) : Ext ρ H ρ (upd H a o) := by
  have ha : a ∈ ρ := List.mem_of_getElem? h
  refine ⟨⟨[], by simp, fun _ z => nomatch z⟩, fun b u e n => ?_, fun b u e => ?_⟩
  · rw [upd_ne (fun z => n (by rw [z]; exact ha))]; exact e
  · by_cases hb : b = a
    · subst hb; exact ⟨o, upd_same⟩
    · exact ⟨u, by rw [upd_ne hb]; exact e⟩
theorem RepS.set (r : RepS w ρ H S) {i : Nat} {a : Addr} {o : HO} {c : Cell} (h : ρ[i]? = some a) (q : RepC w ρ (upd H a o) c o) : RepS w ρ (upd H a o) (S.set i c) := by
  refine ⟨by simp [r.len], r.nd, fun j b c' h1 h2 => ?_⟩
  by_cases hj : i = j
  · subst hj
    rw [h] at h1; cases h1
    have hi : i < S.length := by rw [← r.len]; exact (List.getElem?_eq_some_iff.mp h).1
    rw [List.getElem?_set_self hi] at h2; cases h2
    exact ⟨o, upd_same, q⟩
  · rw [List.getElem?_set_ne hj] at h2
    obtain ⟨u, e, z⟩ := r.cell j b c' h1 h2
    have hb : b ≠ a := fun z => hj (by
      subst z
      exact nodup_ixG r.nd h h1)
    exact ⟨u, by rw [upd_ne hb]; exact e, z.ext (Ext.set h)⟩
where
  nodup_ixG {N : List Addr} (hN : N.Nodup) {i j : Nat} {x : Addr} (a : N[i]? = some x) (b : N[j]? = some x) : i = j := by
    obtain ⟨h1, e1⟩ := List.getElem?_eq_some_iff.mp a
    obtain ⟨h2, e2⟩ := List.getElem?_eq_some_iff.mp b
    exact (List.getElem_inj hN).mp (e1.trans e2.symm)
end

/-! ### a thing of one's own is written, becomes the store's -/
/-- what trees are made of -/
def Held (u : HO) : Prop := (∃ l, u = .tup l) ∨ (∃ a b, u = .frz a b) ∨ ∃ C dx fs, u = .ins C dx fs
theorem not_held {H : Hp} {D a : Addr} {o u : HO} (h : H D = some o) (b : ¬ Held o) (e : H a = some u) (k : Held u) : a ≠ D := fun z => by
  rw [z, h] at e
  cases e
  exact b k
theorem held_tup {l : List V} : Held (.tup l) := .inl ⟨l, rfl⟩
theorem held_frz {a : Obj} {b : HO} : Held (.frz a b) := .inr (.inl ⟨a, b, rfl⟩)
theorem held_ins {C dx : Addr} {fs : List (Str × V)} : Held (.ins C dx fs) := .inr (.inr ⟨C, dx, fs, rfl⟩)
theorem bare_lst {l : List V} : ¬ Held (.lst l) := by rintro (⟨_, h⟩ | ⟨_, _, h⟩ | ⟨_, _, _, h⟩) <;> cases h
theorem bare_dK {l : List (DKey × V)} : ¬ Held (.dK l) := by rintro (⟨_, h⟩ | ⟨_, _, h⟩ | ⟨_, _, _, h⟩) <;> cases h
section
variable {w : Wd} {ρ : List Addr} {H : Hp} {D : Addr} {o : HO}
theorem out_snoc {a : Addr} (n : a ∉ ρ) (h : a ≠ D) : a ∉ ρ ++ [D] := fun z => (List.mem_append.mp z).elim n fun z => h (by simpa using z)
mutual
theorem RepV.adopt (h : H D = some o) (b : ¬ Held o) : ∀ (x : Val) (v : V), RepV w ρ H x v → RepV w (ρ ++ [D]) H x v
  | .non, _, r => by simpa only [RepV] using r
  | .bl _, _, r => by simpa only [RepV] using r
  | .int _, _, r => by simpa only [RepV] using r
  | .str _, _, r => by simpa only [RepV] using r
  | .tup xs, v, r => by
    simp only [RepV] at r ⊢
    obtain ⟨a, vs, h1, h2, h3⟩ := r
    refine ⟨a, vs, h1, ?_, RepVs.adopt h b xs vs h3⟩
    rcases h2 with ⟨n, q | ⟨o, q⟩⟩ | q
    · exact .inl ⟨out_snoc n (not_held h b q held_tup), .inl q⟩
    · exact .inl ⟨out_snoc n (not_held h b q held_frz), .inr ⟨o, q⟩⟩
    · exact .inr q
  | .ins c fs, v, r => by
    simp only [RepV] at r ⊢
    obtain ⟨p, C, dx, ns, vs, h1, h2, h3, h4, h5, h6⟩ := r
    exact ⟨p, C, dx, ns, vs, h1, h2, out_snoc h3 (not_held h b h4 held_ins), h4, h5, RepVs.adopt h b fs vs h6⟩
  | .scr ns, v, r => by
    simp only [RepV] at r ⊢
    obtain ⟨a, h1, h2⟩ := r
    refine ⟨a, h1, ?_⟩
    rcases h2 with ⟨n, o, q⟩ | q
    · exact .inl ⟨out_snoc n (not_held h b q held_frz), o, q⟩
    · exact .inr q
  | .ref i, v, r => by
    simp only [RepV] at r ⊢
    obtain ⟨a, h1, h2⟩ := r
    exact ⟨a, h1, by rw [List.getElem?_append_left (List.getElem?_eq_some_iff.mp h2).1]; exact h2⟩
theorem RepVs.adopt (h : H D = some o) (b : ¬ Held o) : ∀ (xs : List Val) (vs : List V), RepVs w ρ H xs vs → RepVs w (ρ ++ [D]) H xs vs
  | [], _, r => by simpa only [RepVs] using r
  | x :: xs, vs, r => by
    simp only [RepVs] at r ⊢
    obtain ⟨v, u, h1, h2, h3⟩ := r
    exact ⟨v, u, h1, RepV.adopt h b x v h2, RepVs.adopt h b xs u h3⟩
end
theorem RepKV.adopt {κ : Type} (h : H D = some o) (b : ¬ Held o) : ∀ (xs : List (κ × Val)) (vs : List (κ × V)), RepKV w ρ H xs vs → RepKV w (ρ ++ [D]) H xs vs
  | [], _, r => by simpa only [RepKV] using r
  | (k, x) :: xs, vs, r => by
    simp only [RepKV] at r ⊢
    obtain ⟨v, u, h1, h2, h3⟩ := r
    exact ⟨v, u, h1, RepV.adopt h b x v h2, RepKV.adopt h b xs u h3⟩
theorem RepC.adopt (h : H D = some o) (b : ¬ Held o) : ∀ (c : Cell) (o : HO), RepC w ρ H c o → RepC w (ρ ++ [D]) H c o
  | .lst xs, o, ⟨vs, h1, h2⟩ => ⟨vs, h1, RepVs.adopt h b xs vs h2⟩
  | .dct xs, o, ⟨vs, h1, h2⟩ => ⟨vs, h1, RepKV.adopt h b xs vs h2⟩
  | .dtt xs, o, ⟨vs, h1, h2⟩ => ⟨vs, h1, RepKV.adopt h b xs vs h2⟩
  | .obj c fs, o, ⟨C, dx, ns, vs, h1, h2, h3⟩ => ⟨C, dx, ns, vs, h1, h2, RepKV.adopt h b fs vs h3⟩
theorem RepS.adopt {S : Store} {c : Cell} (r : RepS w ρ H S) (h : H D = some o) (b : ¬ Held o) (n : D ∉ ρ) (q : RepC w ρ H c o) : RepS w (ρ ++ [D]) H (S ++ [c]) := by
  refine ⟨by simp [r.len], ?_, fun i a k h1 h2 => ?_⟩
  · rw [List.nodup_append]
    exact ⟨r.nd, by simp, fun a ha b hb => by simp at hb; subst hb; exact fun z => n (by rw [← z]; exact ha)⟩
  · by_cases hi : i < ρ.length
    · rw [List.getElem?_append_left hi] at h1
      rw [List.getElem?_append_left (by rw [← r.len]; exact hi)] at h2
      obtain ⟨u, e, z⟩ := r.cell i a k h1 h2
      exact ⟨u, e, z.adopt h b⟩
    · have hl : i < (ρ ++ [D]).length := (List.getElem?_eq_some_iff.mp h1).1
      have e : i = ρ.length := by simp at hl; omega
      subst e
      rw [List.getElem?_append_right (Nat.le_refl _)] at h1
      rw [r.len, List.getElem?_append_right (Nat.le_refl _)] at h2
      simp at h1 h2
      subst h1; subst h2
      exact ⟨_, h, q.adopt h b⟩
/-- an own thing's place joins the store's -/
theorem Ext.adopt {ρ1 : List Addr} {H1 : Hp} (e : Ext ρ1 H1 ρ H) (h : H1 D = none) : Ext ρ1 H1 (ρ ++ [D]) H := by
  refine ⟨?_, e.oth, e.mono⟩
  obtain ⟨more, rfl, hm⟩ := e.pre
  refine ⟨more ++ [D], by simp, fun a ha => ?_⟩
  rcases List.mem_append.mp ha with z | z
  · exact hm a z
  · have e : a = D := by simpa using z
    rw [e]; exact h
end
section
variable {w : Wd} {ρ : List Addr} {H : Hp} {D : Addr} {o o' : HO}
theorem own_ne {a : Addr} {u : HO} (h : H D = some o) (b : ¬ Held o) (e : H a = some u) (k : Held u) : upd H D o' a = some u := by
  rw [upd_ne (not_held h b e k)]; exact e
mutual
theorem RepV.own (h : H D = some o) (b : ¬ Held o) : ∀ (x : Val) (v : V), RepV w ρ H x v → RepV w ρ (upd H D o') x v
  | .non, _, r => by simpa only [RepV] using r
  | .bl _, _, r => by simpa only [RepV] using r
  | .int _, _, r => by simpa only [RepV] using r
  | .str _, _, r => by simpa only [RepV] using r
  | .ref _, _, r => by simpa only [RepV] using r
  | .tup xs, v, r => by
    simp only [RepV] at r ⊢
    obtain ⟨a, vs, h1, h2, h3⟩ := r
    refine ⟨a, vs, h1, ?_, RepVs.own h b xs vs h3⟩
    rcases h2 with ⟨n, q | ⟨o, q⟩⟩ | q
    · exact .inl ⟨n, .inl (own_ne h b q held_tup)⟩
    · exact .inl ⟨n, .inr ⟨o, own_ne h b q held_frz⟩⟩
    · exact .inr q
  | .ins c fs, v, r => by
    simp only [RepV] at r ⊢
    obtain ⟨p, C, dx, ns, vs, h1, h2, h3, h4, h5, h6⟩ := r
    exact ⟨p, C, dx, ns, vs, h1, h2, h3, own_ne h b h4 held_ins, h5, RepVs.own h b fs vs h6⟩
  | .scr ns, v, r => by
    simp only [RepV] at r ⊢
    obtain ⟨a, h1, h2⟩ := r
    refine ⟨a, h1, ?_⟩
    rcases h2 with ⟨n, o, q⟩ | q
    · exact .inl ⟨n, o, own_ne h b q held_frz⟩
    · exact .inr q
theorem RepVs.own (h : H D = some o) (b : ¬ Held o) : ∀ (xs : List Val) (vs : List V), RepVs w ρ H xs vs → RepVs w ρ (upd H D o') xs vs
  | [], _, r => by simpa only [RepVs] using r
  | x :: xs, vs, r => by
    simp only [RepVs] at r ⊢
    obtain ⟨v, u, h1, h2, h3⟩ := r
    exact ⟨v, u, h1, RepV.own h b x v h2, RepVs.own h b xs u h3⟩
end
theorem RepKV.own {κ : Type} (h : H D = some o) (b : ¬ Held o) : ∀ (xs : List (κ × Val)) (vs : List (κ × V)), RepKV w ρ H xs vs → RepKV w ρ (upd H D o') xs vs
  | [], _, r => by simpa only [RepKV] using r
  | (k, x) :: xs, vs, r => by
    simp only [RepKV] at r ⊢
    obtain ⟨v, u, h1, h2, h3⟩ := r
    exact ⟨v, u, h1, RepV.own h b x v h2, RepKV.own h b xs u h3⟩
theorem RepC.own (h : H D = some o) (b : ¬ Held o) : ∀ (c : Cell) (u : HO), RepC w ρ H c u → RepC w ρ (upd H D o') c u
  | .lst xs, u, ⟨vs, h1, h2⟩ => ⟨vs, h1, RepVs.own h b xs vs h2⟩
  | .dct xs, u, ⟨vs, h1, h2⟩ => ⟨vs, h1, RepKV.own h b xs vs h2⟩
  | .dtt xs, u, ⟨vs, h1, h2⟩ => ⟨vs, h1, RepKV.own h b xs vs h2⟩
  | .obj c fs, u, ⟨C, dx, ns, vs, h1, h2, h3⟩ => ⟨C, dx, ns, vs, h1, h2, RepKV.own h b fs vs h3⟩
theorem RepS.own {S : Store} (r : RepS w ρ H S) (h : H D = some o) (b : ¬ Held o) (n : D ∉ ρ) : RepS w ρ (upd H D o') S :=
  ⟨r.len, r.nd, fun i a c h1 h2 => by
    obtain ⟨u, e, q⟩ := r.cell i a c h1 h2
    exact ⟨u, by rw [upd_ne (fun z => n (by rw [← z]; exact List.mem_of_getElem? h1))]; exact e, q.own h b⟩⟩
theorem Ext.own {ρ1 : List Addr} {H1 : Hp} (e : Ext ρ1 H1 ρ H) (h : H1 D = none) (u : HO) : Ext ρ1 H1 ρ (upd H D u) :=
  ⟨e.pre, fun a z q n => by rw [upd_ne (ne_of_none q h)]; exact e.oth a z q n, fun a z q => by
    by_cases c : a = D
    · subst c; exact ⟨u, upd_same⟩
    · rw [upd_ne c]; exact e.mono a z q⟩
end
end Pd

/-! Pd, part 2: the small language and its evaluator over plain data. -/
namespace Pd
open PySem L2

inductive Lit where
  | non | bl (b : Bool) | int (i : Int) | str (x : Str)
def Lit.val : Lit → Val
  | .non => .non | .bl b => .bl b | .int i => .int i | .str x => .str x

inductive Bop where | add | sub | mul | fdiv | mod | pow | shl
inductive Cop where | eq | ne | lt | le | gt | ge | isN | notN | isIn | notIn
inductive Bf where | len | abs | repr | str | int | tuple | list | sum | all | any | min2 | max2
inductive Bm where | append | pop | popAt | extend | insert | bitlen | get1 | get2 | update | join | sindex
  deriving DecidableEq
inductive Ty where | int | bool | str | tuple | list | dict | own (c : Nat)
  deriving DecidableEq

mutual
inductive IE where
  | lit (l : Lit)
  | var (i : Nat)
  | glob (g : Nat)
  | bin (op : Bop) (a b : IE)
  | neg (a : IE)
  | not (a : IE)
  | and (a b : IE)
  | or (a b : IE)
  | cmp (op : Cop) (a b : IE)
  | chain (o1 o2 : Cop) (a b c : IE)
  | ife (c a b : IE)
  | tup (es : IEs)
  | lst (es : IEs)
  | dsp (ds : IDs)
  | dcomp (key elt : IE) (own : List (Str × Nat)) (t : IT) (it : II) (c : IO)
  | idx (a b : IE)
  | slc (a : IE) (lo hi : IO)
  | rev (a : IE)
  | fld (a : IE) (f : Str)
  | call (f : Nat) (es : IEs)
  | bi (b : Bf) (es : IEs)
  | isin (a : IE) (ts : List Ty)
  | bm (m : Bm) (o : IE) (es : IEs)
  | comp (elt : IE) (own : List (Str × Nat)) (t : IT) (it : II) (c : IO)
inductive IEs where
  | nil
  | cons (e : IE) (es : IEs)
inductive IDs where
  | nil
  | cons (k e : IE) (ds : IDs)
inductive IO where
  | none
  | some (e : IE)
inductive IT where
  | name (i : Nat)
  | tup (ts : ITs)
inductive ITs where
  | nil
  | cons (t : IT) (ts : ITs)
inductive II where
  | val (e : IE)
  | range1 (a : IE)
  | range2 (a b : IE)
  | range3 (a b c : IE)
  | enum (e : IE)
end

mutual
inductive IS where
  | set (i : Nat) (e : IE)
  | asg (t : IT) (e : IE)
  | par (i j : Nat) (a b : IE)
  | par3 (i j l : Nat) (a b c : IE)
  | star (ts : ITs) (i : Nat) (e : IE)
  | aug (i : Nat) (op : Bop) (e : IE)
  | idx (o k e : IE)
  | fld (o : IE) (f : Str) (e : IE)
  | ex (e : IE)
  | ret (e : IE)
  | retN
  | ife (c : IE) (a b : ISs)
  | for_ (t : IT) (it : II) (body : ISs)
  | whl (c : IE) (body : ISs)
  | pass | brk | cont
inductive ISs where
  | nil
  | cons (s : IS) (ss : ISs)
end

/-! ### plain data to the library's own -/
def optMap {α β : Type} (f : α → Option β) : List α → Option (List β)
  | [] => some []
  | x :: xs => match f x, optMap f xs with
    | some d, some ds => some (d :: ds)
    | _, _ => none
def dat (S : Store) : Nat → Val → Option PyData
  | _, .non => some .none
  | _, .bl b => some (.bool b)
  | _, .int i => some (.int i)
  | _, .str x => some (.str x)
  | n + 1, .tup xs => (optMap (dat S n) xs).map .tuple
  | n + 1, .ref i => match S[i]? with
    | some (.lst xs) => (optMap (dat S n) xs).map .list
    | _ => none
  | _, _ => none

/-! ### steps on values -/
def alloc (c : Cell) : M Val := fun S => .ok (.ref S.length) (S ++ [c])
def setCell (i : Nat) (c : Cell) : M Unit := fun S => .ok () (S.set i c)
def sizeMax : Nat := 16777216
def intSmall (i : Int) : Bool := decide (-(2 ^ 64) < i) && decide (i < 2 ^ 64)
def mulFits (a b : Int) : Bool := intSmall a || intSmall b || decide (a.natAbs.log2 + b.natAbs.log2 < 1000000)
def divFits (b : Int) : Bool := decide (b ≠ 0) && decide (b.natAbs.log2 < 9000)
def powFits (a b : Int) : Bool := decide (0 ≤ b) && decide (b ≤ 1000000) && decide (a.natAbs < 2 ^ 64)

def truth (S : Store) : Val → Option Bool
  | .non => some false
  | .bl b => some b
  | .int i => some (i != 0)
  | .str x => if x.length ≤ sizeMax then some (x.length != 0) else none
  | .tup xs => some (!xs.isEmpty)
  | .scr ns => some (!ns.isEmpty)
  | .ref i => match S[i]? with
    | some (.lst xs) => some (!xs.isEmpty)
    | some (.dct kvs) => some (!kvs.isEmpty)
    | _ => none
  | .ins _ _ => none
def truthM (v : Val) : M Bool := fun S => match truth S v with
  | some b => .ok b S
  | none => .bad

def eqV (S : Store) (a b : Val) : Option Bool :=
  match a, b with
  | .int i, .int j => some (decide (i = j))
  | .str x, .str y => some (decide (x = y))
  | .bl x, .bl y => some (decide (x = y))
  | .non, .non => some true
  | _, _ => match dat S 60 a, dat S 60 b with
    | some d, some e => if SeqAt.shaped d && SeqAt.shaped e then some (PyData.eqv d e) else none
    | _, _ => none

def catL (i j : Nat) : M Val := fun S => match S[i]?, S[j]? with
  | some (.lst xs), some (.lst ys) => if xs.length + ys.length ≤ sizeMax then alloc (.lst (xs ++ ys)) S else .bad
  | _, _ => .bad
def repL (l : Nat) (k : Int) : M Val := fun S => match S[l]? with
  | some (.lst xs) => if decide (-(2 ^ 63) ≤ k) && decide (k < 2 ^ 63) && decide (xs.length * k.toNat ≤ sizeMax) then alloc (.lst (List.replicate k.toNat xs).flatten) S else .bad
  | _ => .bad
def addV (a b : Val) : M Val :=
  match a, b with
  | .int i, .int j => pure (.int (i + j))
  | .str x, .str y => if x.length + y.length ≤ sizeMax then pure (.str (x ++ y)) else stuck
  | .tup xs, .tup ys => if xs.length + ys.length ≤ sizeMax then pure (.tup (xs ++ ys)) else stuck
  | .ref i, .ref j => catL i j
  | _, _ => stuck
def subV (a b : Val) : M Val :=
  match a, b with
  | .int i, .int j => pure (.int (i - j))
  | _, _ => stuck
def mulV (a b : Val) : M Val :=
  match a, b with
  | .int i, .int j => if mulFits i j then pure (.int (i * j)) else stuck
  | .ref l, .int k => repL l k
  | _, _ => stuck
def fdivV (a b : Val) : M Val :=
  match a, b with
  | .int i, .int j => if divFits j then pure (.int (i.fdiv j)) else stuck
  | _, _ => stuck
def modV (a b : Val) : M Val :=
  match a, b with
  | .int i, .int j => if j ≠ 0 then pure (.int (i.fmod j)) else stuck
  | _, _ => stuck
def powV (a b : Val) : M Val :=
  match a, b with
  | .int i, .int j => if powFits i j then pure (.int (i ^ j.toNat)) else stuck
  | _, _ => stuck
def shlV (a b : Val) : M Val :=
  match a, b with
  | .int i, .int j => if powFits i j then pure (.int (i * 2 ^ j.toNat)) else stuck
  | _, _ => stuck
def binV (op : Bop) (a b : Val) : M Val :=
  match op with
  | .add => addV a b | .sub => subV a b | .mul => mulV a b | .fdiv => fdivV a b | .mod => modV a b | .pow => powV a b | .shl => shlV a b

def seqOf (S : Store) : Val → Option (List Val)
  | .tup xs => some xs
  | .scr ns => some (ns.map .int)
  | .ref i => match S[i]? with
    | some (.lst xs) => some xs
    | _ => none
  | _ => none

def keyOf : Val → Option DKey
  | .int i => some (.inl i)
  | .str x => some (.inr x)
  | _ => none
def lookV {κ : Type} [DecidableEq κ] : List (κ × Val) → κ → Option Val
  | [], _ => none
  | (k, v) :: r, q => if k = q then some v else lookV r q
def putV {κ : Type} [DecidableEq κ] (kvs : List (κ × Val)) (q : κ) (x : Val) : List (κ × Val) :=
  if kvs.any (fun e => decide (e.1 = q)) then kvs.map (fun e => if e.1 = q then (e.1, x) else e) else kvs ++ [(q, x)]

/-- == of flat things -/
def flatV : Val → Bool
  | .int _ => true | .str _ => true | .bl _ => true | .non => true | _ => false
def flatEq : Val → Val → Bool
  | .non, .non => true
  | .bl a, .bl b => a == b
  | .bl a, .int b => (if a then 1 else 0) == b
  | .int a, .bl b => a == (if b then 1 else 0)
  | .int a, .int b => a == b
  | .str a, .str b => a == b
  | _, _ => false
/-- x in y: a row of flat things, a dict's keys, a sign in a text -/
def inV (S : Store) (x y : Val) : Option Bool :=
  match seqOf S y with
  | some l => if flatV x && l.all flatV then some (l.any fun z => flatEq z x) else none
  | none => match y with
    | .ref d => match S[d]? with
      | some (.dct kvs) => match keyOf x with
        | some q => some (lookV kvs q).isSome
        | none => none
      | _ => none
    | .str z => match x with
      | .str c => if c.cps.size = 1 then some (decide (c.cps.getD 0 0 ∈ z.cps.toList)) else none
      | _ => none
    | _ => none
def ltInts : List Int → List Int → Bool
  | _, [] => false
  | [], _ :: _ => true
  | a :: as, b :: bs => if a = b then ltInts as bs else decide (a < b)

def cmpV (op : Cop) (a b : Val) : M Val := fun S =>
  match op with
  | .eq => match eqV S a b with | some r => .ok (.bl r) S | none => .bad
  | .ne => match eqV S a b with | some r => .ok (.bl (!r)) S | none => .bad
  | .lt => match a, b with
    | .int i, .int j => .ok (.bl (decide (i < j))) S
    | _, _ => .bad
  | .le => match a, b with
    | .int i, .int j => .ok (.bl (decide (i ≤ j))) S
    | _, _ => .bad
  | .gt => match a, b with
    | .int i, .int j => .ok (.bl (decide (j < i))) S
    | _, _ => .bad
  | .ge => match a, b with
    | .int i, .int j => .ok (.bl (decide (j ≤ i))) S
    | _, _ => .bad
  | .isN => match a, b with
    | .non, .non => .ok (.bl true) S
    | _, .non => .ok (.bl false) S
    | _, _ => .bad
  | .notN => match a, b with
    | .non, .non => .ok (.bl false) S
    | _, .non => .ok (.bl true) S
    | _, _ => .bad
  | .isIn => match inV S a b with | some r => .ok (.bl r) S | none => .bad
  | .notIn => match inV S a b with | some r => .ok (.bl (!r)) S | none => .bad

def idxStore (d : Nat) (k : Val) : M Val := fun S => match S[d]? with
  | some (.dct kvs) => match keyOf k with
    | some q => match lookV kvs q with | some v => .ok v S | none => .bad
    | none => .bad
  | some (.lst xs) => match k with
    | .int i => match L2.atI xs i with | some v => .ok v S | none => .bad
    | _ => .bad
  | _ => .bad
def idxV (a b : Val) : M Val :=
  match a, b with
  | .ref d, k => idxStore d k
  | .tup xs, .int i => ofOpt (L2.atI xs i)
  | .str x, .int i => if x.length ≤ sizeMax then ofOpt ((L2.atI x.cps.toList i).map fun c => .str ⟨#[c]⟩) else stuck
  | _, _ => stuck
def fldV (a : Val) (f : Str) (names : Nat → List Str) : M Val := fun S =>
  match a with
  | .ins c fs => match ((names c).zip fs).lookup f with | some v => .ok v S | none => .bad
  | .ref i => match S[i]? with
    | some (.obj _ fs) => match fs.lookup f with | some v => .ok v S | none => .bad
    | _ => .bad
  | _ => .bad

/-- a value's type; of None: none -/
def tyV (S : Store) : Val → Option Ty
  | .non => none
  | .bl _ => some .bool
  | .int _ => some .int
  | .str _ => some .str
  | .tup _ => some .tuple
  | .ins c _ => some (.own c)
  | .ref i => match S[i]? with
    | some (.lst _) => some .list
    | some (.dct _) => some .dict
    | some (.dtt _) => some .dict
    | some (.obj c _) => some (.own c)
    | none => none
  | .scr _ => some .list
def tyMatch (t : Option Ty) : Ty → Bool
  | .int => match t with | some .int => true | some .bool => true | _ => false
  | .bool => match t with | some .bool => true | _ => false
  | .str => match t with | some .str => true | _ => false
  | .tuple => match t with | some .tuple => true | _ => false
  | .list => match t with | some .list => true | _ => false
  | .dict => match t with | some .dict => true | _ => false
  | .own c => match t with | some (.own d) => c == d | _ => false

def intsOf : List Val → Option (List Int)
  | [] => some []
  | .int i :: r => (intsOf r).map (i :: ·)
  | _ => none
def boolsOf : List Val → Option (List Bool)
  | [] => some []
  | .bl b :: r => (boolsOf r).map (b :: ·)
  | _ => none

/-- what a list that is read holds -/
def lstOf (S : Store) : Val → Option (List Val)
  | .scr ns => some (ns.map .int)
  | .ref i => match S[i]? with
    | some (.lst xs) => some xs
    | _ => none
  | _ => none
def lenV (v : Val) : M Val := fun S => match v with
  | .str x => if x.length ≤ sizeMax then .ok (.int x.length) S else .bad
  | v => match seqOf S v with
    | some l => .ok (.int l.length) S
    | none => match v with
      | .ref d => match S[d]? with | some (.dct kvs) => .ok (.int kvs.length) S | _ => .bad
      | _ => .bad
def reprV (v : Val) : M Val := fun S => match dat S 60 v with
  | some d => if d.showable && decide (d.shown.length ≤ sizeMax) && decide (d.depth ≤ 60) && !d.hasDict then .ok (.str d.shown) S else .bad
  | none => .bad
def intF (v : Val) : M Val := match v with
  | .int i => pure (.int i)
  | .bl k => pure (.int (if k then 1 else 0))
  | _ => stuck
def strF (v : Val) : M Val := match v with
  | .int i => if i.natAbs.log2 < 1920 then pure (.str (toString i)) else stuck
  | .str x => pure (.str x)
  | _ => stuck
def tupF (v : Val) : M Val := fun S => match v with
  | .tup ys => .ok (.tup ys) S
  | v => match lstOf S v with | some l => .ok (.tup l) S | none => .bad
def lstF (v : Val) : M Val := fun S => match seqOf S v with
  | some l => alloc (.lst l) S
  | none => .bad
def sumF (v : Val) : M Val := fun S => match lstOf S v with
  | some l => match intsOf l with | some ns => .ok (.int ns.sum) S | none => .bad
  | none => .bad
def allF (v : Val) : M Val := fun S => match lstOf S v with
  | some l => match boolsOf l with | some bs => .ok (.bl (bs.all id)) S | none => .bad
  | none => .bad
def anyF (v : Val) : M Val := fun S => match lstOf S v with
  | some l => match boolsOf l with | some bs => .ok (.bl (bs.any id)) S | none => .bad
  | none => .bad
def absF (v : Val) : M Val := match v with
  | .int i => pure (.int (if i < 0 then -i else i))
  | _ => stuck
def minF (a b : Val) : M Val := match a, b with
  | .int i, .int j => pure (.int (if j < i then j else i))
  | _, _ => stuck
def maxF (a b : Val) : M Val := match a, b with
  | .int i, .int j => pure (.int (if j > i then j else i))
  | _, _ => stuck
def biV (b : Bf) (xs : List Val) : M Val :=
  match xs with
  | [v] => match b with
    | .len => lenV v | .abs => absF v | .repr => reprV v | .int => intF v | .str => strF v | .tuple => tupF v | .list => lstF v
    | .sum => sumF v | .all => allF v | .any => anyF v | _ => stuck
  | [v, u] => match b with
    | .min2 => minF v u | .max2 => maxF v u | _ => stuck
  | _ => stuck

/-- the places of a slice's ends, as the hand layer has them -/
def cutL {α : Type} (xs : List α) (lo hi : Option Int) : List α :=
  (xs.drop (HT.sIx xs.length 0 lo)).take (HT.sIx xs.length xs.length hi - HT.sIx xs.length 0 lo)
def cutLst (i : Nat) (l h : Option Int) : M Val := fun S => match S[i]? with
  | some (.lst xs) => alloc (.lst (cutL xs l h)) S
  | _ => .bad
def slcV (a : Val) (l h : Option Int) : M Val :=
  match a with
  | .tup xs => pure (.tup (cutL xs l h))
  | .str x => if x.length ≤ sizeMax then pure (.str ⟨(cutL x.cps.toList l h).toArray⟩) else stuck
  | .scr ns => alloc (.lst (cutL (ns.map .int) l h))
  | .ref i => cutLst i l h
  | _ => stuck
def revLst (i : Nat) : M Val := fun S => match S[i]? with
  | some (.lst xs) => alloc (.lst xs.reverse) S
  | _ => .bad
def revV (a : Val) : M Val :=
  match a with
  | .tup xs => pure (.tup xs.reverse)
  | .scr ns => alloc (.lst (ns.map .int).reverse)
  | .ref i => revLst i
  | _ => stuck

def appendV (i : Nat) (v : Val) : M Val := fun S => match S[i]? with
  | some (.lst l) => if l.length < sizeMax then .ok .non (S.set i (.lst (l ++ [v]))) else .bad
  | _ => .bad
def popV (i : Nat) : M Val := fun S => match S[i]? with
  | some (.lst l) => match l[l.length - 1]? with
    | some v => .ok v (S.set i (.lst l.dropLast))
    | none => .bad
  | _ => .bad
def popAtV (i : Nat) (k : Int) : M Val := fun S => match S[i]? with
  | some (.lst l) => if decide (-(2 ^ 63) ≤ k) && decide (k < 2 ^ 63) then match seqIndex? k l.length with
      | some j => match l[j]? with
        | some v => .ok v (S.set i (.lst (l.eraseIdx j)))
        | none => .bad
      | none => .bad
    else .bad
  | _ => .bad
def extendV (i j : Nat) : M Val := fun S => match S[i]?, S[j]? with
  | some (.lst l), some (.lst l') => if l.length + l'.length ≤ sizeMax then .ok .non (S.set i (.lst (l ++ l'))) else .bad
  | _, _ => .bad
def insertV (i : Nat) (k : Int) (v : Val) : M Val := fun S => match S[i]? with
  | some (.lst l) => if decide (l.length < sizeMax) && decide (0 ≤ k) && decide (k < 2 ^ 63) then .ok .non (S.set i (.lst (l.take k.toNat ++ [v] ++ l.drop k.toNat))) else .bad
  | _ => .bad
/-- a thing that has the method -/
def dicOf (S : Store) : Val → Option (List (DKey × Val))
  | .ref i => match S[i]? with
    | some (.dct kvs) => some kvs
    | _ => none
  | _ => none
def strsOf : List Val → Option (List Str)
  | [] => some []
  | .str x :: r => (strsOf r).map (x :: ·)
  | _ => none
def getV (o k : Val) (d : Val) : M Val := fun S => match dicOf S o with
  | some kvs => match keyOf k with
    | some q => .ok ((lookV kvs q).getD d) S
    | none => .bad
  | none => .bad
def mergeV (kvs more : List (DKey × Val)) : List (DKey × Val) := more.foldl (fun acc e => putV acc e.1 e.2) kvs
def updateV (i j : Nat) : M Val := fun S => match S[i]?, S[j]? with
  | some (.dct kvs), some (.dct more) => if decide (i ≠ j) && decide (kvs.length + more.length ≤ sizeMax) then .ok .non (S.set i (.dct (mergeV kvs more))) else .bad
  | _, _ => .bad
def joinV (x : Str) (v : Val) : M Val := fun S => match seqOf S v with
  | some l => match strsOf l with
    | some ys => if decide ((ys.map (·.length)).sum + ys.length * x.length ≤ sizeMax) then .ok (.str (Txt.join x ys)) S else .bad
    | none => .bad
  | none => .bad
def sindexV (x y : Str) : M Val := fun S => match Builtin.Str.occurrences x y 0 x.length 1 with
  | i :: _ => .ok (.int (i : Nat)) S
  | [] => .bad
/-- what kind of thing has the method -/
def isStrV : Val → Bool
  | .str _ => true
  | _ => false
def isIntV : Val → Bool
  | .int _ => true
  | _ => false
def isLstV (S : Store) : Val → Bool
  | .ref i => match S[i]? with
    | some (.lst _) => true
    | _ => false
  | _ => false
def recvB (S : Store) : Bm → Val → Bool
  | .bitlen, o => isIntV o
  | .join, o => isStrV o
  | .sindex, o => isStrV o
  | .get1, o => (dicOf S o).isSome
  | .get2, o => (dicOf S o).isSome
  | .update, o => (dicOf S o).isSome
  | _, o => isLstV S o
def recv (m : Bm) (o : Val) : M Unit := fun S => if recvB S m o then .ok () S else .bad
def bmV (m : Bm) (o : Val) (xs : List Val) : M Val :=
  match m, o, xs with
  | .append, .ref i, [v] => appendV i v
  | .pop, .ref i, [] => popV i
  | .popAt, .ref i, [.int k] => popAtV i k
  | .extend, .ref i, [.ref j] => extendV i j
  | .insert, .ref i, [.int k, v] => insertV i k v
  | .bitlen, .int i, [] => pure (.int (Builtin.Int.intBits i : Nat))
  | .get1, o, [k] => getV o k .non
  | .get2, o, [k, d] => getV o k d
  | .update, .ref i, [.ref j] => updateV i j
  | .join, .str x, [v] => joinV x v
  | .sindex, .str x, [.str y] => sindexV x y
  | _, _, _ => stuck

/-! ### what is walked -/
inductive Src where
  | stat (xs : List Val)
  | dyn (i : Nat)
  | enumS (xs : List Val)
  | enumD (i : Nat)
/-- the k-th thing: none where this can't be asked, some none behind the last -/
def Src.at (s : Src) (S : Store) (k : Nat) : Option (Option Val) :=
  match s with
  | .stat xs => some xs[k]?
  | .dyn i => match S[i]? with
    | some (.lst xs) => some xs[k]?
    | _ => none
  | .enumS xs => some (xs[k]?.map fun x => .tup [.int (k : Nat), x])
  | .enumD i => match S[i]? with
    | some (.lst xs) => some (xs[k]?.map fun x => .tup [.int (k : Nat), x])
    | _ => none
def Src.len (s : Src) (S : Store) : Nat :=
  match s with
  | .stat xs => xs.length
  | .enumS xs => xs.length
  | .dyn i => match S[i]? with
    | some (.lst xs) => xs.length
    | _ => 0
  | .enumD i => match S[i]? with
    | some (.lst xs) => xs.length
    | _ => 0
def enumV (v : Val) : M Src := fun S =>
  match v with
  | .tup xs => .ok (.enumS xs) S
  | .scr ns => .ok (.enumS (ns.map .int)) S
  | .ref i => match S[i]? with
    | some (.lst _) => .ok (.enumD i) S
    | _ => .bad
  | _ => .bad
/-- n of lo, lo + c, .. -/
def stepTo (lo c : Int) (n : Nat) : List Val := (List.range n).map fun i => .int (lo + (i : Nat) * c)
/-- range(i, j, c) with c = -1 -/
def range3V (i j c : Int) : M Src := fun S =>
  if decide (c = -1) && decide (-(2 ^ 62) ≤ i) && decide (i < 2 ^ 62) && decide (-(2 ^ 62) ≤ j) && decide (j < 2 ^ 62) then .ok (.stat (stepTo i (-1) (i - j).toNat)) S else .bad
def signs (x : Str) : List Val := x.cps.toList.map fun c => .str ⟨#[c]⟩
def srcV (v : Val) : M Src := fun S =>
  match v with
  | .tup xs => .ok (.stat xs) S
  | .scr ns => .ok (.stat (ns.map .int)) S
  | .str x => .ok (.stat (signs x)) S
  | .ref i => match S[i]? with
    | some (.lst _) => .ok (.dyn i) S
    | _ => .bad
  | _ => .bad
def upTo (lo : Int) (n : Nat) : List Val := (List.range n).map fun i => .int (lo + (i : Nat))
def rangeV (lo hi : Int) : M Src := fun S =>
  if decide (-(2 ^ 62) ≤ lo) && decide (lo < 2 ^ 62) && decide (-(2 ^ 62) ≤ hi) && decide (hi < 2 ^ 62) then .ok (.stat (upTo lo (hi - lo).toNat)) S else .bad

/-! ### the evaluator -/
structure EvC where
  cf : Nat → List Val → M Val
  globs : List (Str × Val)
  names : Nat → List Str

def envGet : Env → Nat → Option Val
  | [], _ => none
  | v :: _, 0 => v
  | _ :: r, i + 1 => envGet r i
def envSet : Env → Nat → Val → Env
  | [], _, _ => []
  | _ :: r, 0, x => some x :: r
  | v :: r, i + 1, x => v :: envSet r i x
def envDel : Env → Nat → Env
  | [], _ => []
  | _ :: r, 0 => none :: r
  | v :: r, i + 1 => v :: envDel r i
def envDels (env : Env) : List Nat → Env
  | [] => env
  | i :: is => envDel (envDels env is) i

def isinV (ts : List Ty) (v : Val) : M Val := fun S => .ok (.bl (ts.any (tyMatch (tyV S v)))) S

/-- a step that may not raise -/
def noExc {α : Type} (m : M α) : M α := fun S => match m S with
  | .ok a S' => .ok a S'
  | _ => .bad
/-- the turns of a comprehension: fuel, turn, what is there so far -/
def compLoop (src : Src) (put : Store → Val → Option Env) (keep : Env → M Bool) (elt : Env → M Val) : Nat → Nat → List Val → M (List Val)
  | fuel, k, acc => fun S => match src.at S k with
    | none => .bad
    | some none => .ok acc S
    | some (some x) => match fuel with
      | 0 => .bad
      | n + 1 => match put S x with
        | none => .bad
        | some env => (keep env >>= fun c => if c then (elt env >>= fun v => need (decide (acc.length < sizeMax)) >>= fun _ => compLoop src put keep elt n (k + 1) (acc ++ [v]))
            else compLoop src put keep elt n (k + 1) acc) S

/-- the turns of a dict comprehension -/
def dcompLoop (src : Src) (put : Store → Val → Option Env) (keep : Env → M Bool) (key elt : Env → M Val) : Nat → Nat → List (DKey × Val) → M (List (DKey × Val))
  | fuel, k, acc => fun S => match src.at S k with
    | none => .bad
    | some none => .ok acc S
    | some (some x) => match fuel with
      | 0 => .bad
      | n + 1 => match put S x with
        | none => .bad
        | some env => (keep env >>= fun c => if c then (key env >>= fun y => elt env >>= fun v => match keyOf y with
              | some q => need (decide (acc.length < sizeMax)) >>= fun _ => dcompLoop src put keep key elt n (k + 1) (putV acc q v)
              | none => stuck)
            else dcompLoop src put keep key elt n (k + 1) acc) S

mutual
/-- a value goes to a target -/
def evT (S : Store) : IT → Val → Env → Option Env
  | .name i, v, env => some (envSet env i v)
  | .tup ts, v, env => match seqOf S v with
    | some xs => evTs S ts xs env
    | none => none
def evTs (S : Store) : ITs → List Val → Env → Option Env
  | .nil, [], env => some env
  | .cons t ts, x :: xs, env => match evT S t x env with
    | some env => evTs S ts xs env
    | none => none
  | _, _, _ => none
end
mutual
def slotsT : IT → List Nat
  | .name i => [i]
  | .tup ts => slotsTs ts
def slotsTs : ITs → List Nat
  | .nil => []
  | .cons t ts => slotsT t ++ slotsTs ts
end
def lenDs : IDs → Nat
  | .nil => 0
  | .cons _ _ ds => lenDs ds + 1
def lenTs : ITs → Nat
  | .nil => 0
  | .cons _ ts => lenTs ts + 1

mutual
def evE (C : EvC) : IE → Env → M Val
  | .lit l, _ => pure l.val
  | .var i, env => ofOpt (envGet env i)
  | .glob g, _ => ofOpt ((C.globs[g]?).map (·.2))
  | .bin op a b, env => do let x ← evE C a env; let y ← evE C b env; binV op x y
  | .neg a, env => do
    let x ← evE C a env
    match x with
    | .int i => pure (.int (-i))
    | _ => stuck
  | .not a, env => do let x ← evE C a env; let t ← truthM x; pure (.bl (!t))
  | .and a b, env => do let x ← evE C a env; let t ← truthM x; if t then evE C b env else pure x
  | .or a b, env => do let x ← evE C a env; let t ← truthM x; if t then pure x else evE C b env
  | .cmp op a b, env => do let x ← evE C a env; let y ← evE C b env; cmpV op x y
  | .chain o1 o2 a b c, env => do
    let x ← evE C a env
    let y ← evE C b env
    let r ← cmpV o1 x y
    let t ← truthM r
    if t then do let z ← evE C c env; cmpV o2 y z else pure r
  | .ife c a b, env => do let x ← evE C c env; let t ← truthM x; if t then evE C a env else evE C b env
  | .tup es, env => do let xs ← evEs C es env; need (decide (xs.length ≤ sizeMax)); pure (.tup xs)
  | .lst es, env => do let xs ← evEs C es env; need (decide (xs.length ≤ sizeMax)); alloc (.lst xs)
  | .dsp ds, env => do
    let kvs ← evD C ds env
    alloc (.dct (mergeV [] kvs))
  | .dcomp key elt own t it c, env => do
    let src ← evI C it env
    let env' := envDels env (own.map (·.2))
    let kvs ← noExc fun S => dcompLoop src (fun S x => evT S t x env') (evK C c) (evE C key) (evE C elt) (src.len S) 0 [] S
    alloc (.dct kvs)
  | .idx a b, env => do let x ← evE C a env; let y ← evE C b env; idxV x y
  | .slc a lo hi, env => do let x ← evE C a env; let l ← evO C lo env; let h ← evO C hi env; slcV x l h
  | .rev a, env => do let x ← evE C a env; revV x
  | .fld a f, env => do let x ← evE C a env; fldV x f C.names
  | .call f es, env => do let xs ← evEs C es env; C.cf f xs
  | .bi b es, env => do let xs ← evEs C es env; biV b xs
  | .isin a ts, env => do let x ← evE C a env; isinV ts x
  | .bm m o es, env => do let x ← evE C o env; recv m x; let xs ← evEs C es env; bmV m x xs
  | .comp elt own t it c, env => do
    let src ← evI C it env
    let env' := envDels env (own.map (·.2))
    let xs ← noExc fun S => compLoop src (fun S x => evT S t x env') (evK C c) (evE C elt) (src.len S) 0 [] S
    alloc (.lst xs)
def evEs (C : EvC) : IEs → Env → M (List Val)
  | .nil, _ => pure []
  | .cons e es, env => do let x ← evE C e env; let xs ← evEs C es env; pure (x :: xs)
/-- a dict's pairs, in their order -/
def evD (C : EvC) : IDs → Env → M (List (DKey × Val))
  | .nil, _ => pure []
  | .cons k e ds, env => do
    let x ← evE C k env
    let v ← evE C e env
    let r ← evD C ds env
    match keyOf x with
    | some q => pure ((q, v) :: r)
    | none => stuck
def evO (C : EvC) : IO → Env → M (Option Int)
  | .none, _ => pure none
  | .some e, env => do
    let x ← evE C e env
    match x with
    | .int i => pure (some i)
    | _ => stuck
def evK (C : EvC) : IO → Env → M Bool
  | .none, _ => pure true
  | .some c, env => do let x ← evE C c env; truthM x
def evI (C : EvC) : II → Env → M Src
  | .val e, env => do let x ← evE C e env; srcV x
  | .range1 a, env => do
    let x ← evE C a env
    match x with
    | .int i => rangeV 0 i
    | _ => stuck
  | .range2 a b, env => do
    let x ← evE C a env
    let y ← evE C b env
    match x, y with
    | .int i, .int j => rangeV i j
    | _, _ => stuck
  | .range3 a b c, env => do
    let x ← evE C a env
    let y ← evE C b env
    let z ← evE C c env
    match x, y, z with
    | .int i, .int j, .int k => range3V i j k
    | _, _, _ => stuck
  | .enum e, env => do let x ← evE C e env; enumV x
end

/-! ### statements -/
inductive RS where
  | nx (env : Env) (S : Store)
  | bk (env : Env) (S : Store)
  | ct (env : Env) (S : Store)
  | rt (v : Val) (S : Store)
  | exc (x : Exn) (env : Env) (S : Store)
  | bad
def Res.then {α : Type} (r : Res α) (env : Env) (f : α → Store → RS) : RS :=
  match r with
  | .ok a S => f a S
  | .exc x S => .exc x env S
  | .bad => .bad
def RS.seq (r : RS) (f : Env → Store → RS) : RS :=
  match r with
  | .nx env S => f env S
  | r => r
/-- the turns of a for -/
def forLoop (src : Src) (put : Store → Val → Env → Option Env) (body : Env → Store → RS) : Nat → Nat → Env → Store → RS
  | fuel, k, env, S => match src.at S k with
    | none => .bad
    | some none => .nx env S
    | some (some x) => match fuel with
      | 0 => .bad
      | n + 1 => match put S x env with
        | none => .bad
        | some env1 => match body env1 S with
          | .nx env2 S2 => forLoop src put body n (k + 1) env2 S2
          | .ct env2 S2 => forLoop src put body n (k + 1) env2 S2
          | .bk env2 S2 => .nx env2 S2
          | r => r
def whlLoop (test : Env → M Bool) (body : Env → Store → RS) : Nat → Env → Store → RS
  | fuel, env, S => (test env S).then env fun t S1 => if t then match fuel with
      | 0 => .bad
      | n + 1 => match body env S1 with
        | .nx env2 S2 => whlLoop test body n env2 S2
        | .ct env2 S2 => whlLoop test body n env2 S2
        | .bk env2 S2 => .nx env2 S2
        | r => r
    else .nx env S1
def setV (o k v : Val) : M Unit := fun S =>
  match o with
  | .ref d => match S[d]? with
    | some (.lst xs) => match k with
      | .int i => match L2.ixN xs.length i with
        | some j => .ok () (S.set d (.lst (xs.set j v)))
        | none => .bad
      | _ => .bad
    | some (.dct kvs) => match keyOf k with
      | some q => if kvs.length < sizeMax then .ok () (S.set d (.dct (putV kvs q v))) else .bad
      | none => .bad
    | _ => .bad
  | _ => .bad

/-- first, *middle, last = v: what the targets get, n of them, the i-th a new list -/
def starV (S : Store) (v : Val) (n i : Nat) : Option (List Val × List Val) := match v with
  | .tup l => if decide (n ≤ l.length + 1) && decide (i < n) && decide (l.length ≤ 16384) then some (l.take i ++ [.ref S.length] ++ (l.drop i).drop (l.length + 1 - n), (l.drop i).take (l.length + 1 - n)) else none
  | _ => none
/-- x op= y of ints -/
def augV (op : Bop) (x y : Val) : M Val := match op, x, y with
  | .add, .int i, .int j => pure (.int (i + j))
  | .sub, .int i, .int j => pure (.int (i - j))
  | _, _, _ => stuck
mutual
/-- n: how many turns a while may take -/
def evS (C : EvC) (n : Nat) : IS → Env → Store → RS
  | .set i e, env, S => (evE C e env S).then env fun v S => .nx (envSet env i v) S
  | .asg t e, env, S => (evE C e env S).then env fun v S => match evT S t v env with
    | some env => .nx env S
    | none => .bad
  | .par i j a b, env, S => (evE C a env S).then env fun x S => (evE C b env S).then env fun y S => .nx (envSet (envSet env i x) j y) S
  | .par3 i j l a b c, env, S => (evE C a env S).then env fun x S => (evE C b env S).then env fun y S => (evE C c env S).then env fun z S => .nx (envSet (envSet (envSet env i x) j y) l z) S
  | .star ts i e, env, S => (evE C e env S).then env fun v S => match starV S v (lenTs ts) i with
    | some (xs, ms) => match evTs (S ++ [.lst ms]) ts xs env with
      | some env => .nx env (S ++ [.lst ms])
      | none => .bad
    | none => .bad
  | .aug i op e, env, S => match envGet env i with
    | none => .bad
    | some x => (evE C e env S).then env fun y S => (augV op x y S).then env fun v S => .nx (envSet env i v) S
  | .idx o k e, env, S => (evE C e env S).then env fun v S => (evE C o env S).then env fun x S => (evE C k env S).then env fun y S => (setV x y v S).then env fun _ S => .nx env S
  | .fld _ _ _, _, _ => .bad
  | .ex e, env, S => (evE C e env S).then env fun _ S => .nx env S
  | .ret e, env, S => (evE C e env S).then env fun v S => .rt v S
  | .retN, _, S => .rt .non S
  | .ife c a b, env, S => (evE C c env S).then env fun v S => (truthM v S).then env fun t S => if t then evSs C n a env S else evSs C n b env S
  | .for_ t it body, env, S => (evI C it env S).then env fun src S => forLoop src (fun S x e => evT S t x e) (evSs C n body) (src.len S) 0 env S
  | .whl c body, env, S => whlLoop (fun e => do let v ← evE C c e; truthM v) (evSs C n body) n env S
  | .pass, env, S => .nx env S
  | .brk, env, S => .bk env S
  | .cont, env, S => .ct env S
def evSs (C : EvC) (n : Nat) : ISs → Env → Store → RS
  | .nil, env, S => .nx env S
  | .cons s ss, env, S => (evS C n s env S).seq (evSs C n ss)
end

/-! ### defs -/
structure FnD where
  name : Str
  N : List Str
  np : Nat
  body : ISs
structure Tab where
  fns : List FnD
  globs : List (Str × Val)
  blts : List Str
  cnames : Nat → List Str
  tys : List Ty

mutual
def refsLt (n : Nat) : Val → Bool
  | .ref i => decide (i < n)
  | .tup xs => refsLtL n xs
  | .ins _ fs => refsLtL n fs
  | _ => true
def refsLtL (n : Nat) : List Val → Bool
  | [] => true
  | x :: xs => refsLt n x && refsLtL n xs
end
def cellLt (n : Nat) : Cell → Bool
  | .lst xs => refsLtL n xs
  | .dct kvs => refsLtL n (kvs.map (·.2))
  | .dtt kvs => refsLtL n (kvs.map (·.2))
  | .obj _ fs => refsLtL n (fs.map (·.2))
/-- what was made within and isn't handed out goes -/
def swept (n : Nat) (v : Val) (S : Store) : Store :=
  if refsLt n v && (S.take n).all (cellLt n) then S.take n else S

def callF (T : Tab) (fuel : Nat) : Nat → Nat → List Val → M Val
  | 0, _, _ => stuck
  | k + 1, f, args => fun S => match T.fns[f]? with
    | none => .bad
    | some d => if args.length = d.np then
        match evSs ⟨callF T fuel k, T.globs, T.cnames⟩ fuel d.body (args.map some ++ List.replicate (d.N.length - d.np) none) S with
        | .nx _ S' => .ok .non (swept S.length .non S')
        | .rt v S' => .ok v (swept S.length v S')
        | .exc x _ S' => .exc x S'
        | _ => .bad
      else .bad
end Pd

/-! Pd, part 3: when a text of the small language stands for a text of the model's. -/
namespace Pd
open PySem L2

def visB (sc : Scope) (x : Str) : Bool := match sc.names.lookup x with
  | some .local => true | some .cell => true | some .free => true | _ => false
def glB (sc : Scope) (x : Str) : Bool := match sc.names.lookup x with
  | some .globalImplicit => true | _ => false
def locB (sc : Scope) (x : Str) : Bool := match sc.names.lookup x with
  | some .local => true | some .cell => true | _ => false
def plB (sc : Scope) (x : Str) : Bool := match sc.names.lookup x with
  | some .local => true | _ => false
/-- a name that may be stored: ow is the scope as it is written -/
def stB (ow sc : Scope) (x : Str) : Bool := match sc.names.lookup x with
  | some .local => true
  | some .cell => (match ow.names.lookup x with | some .cell => true | _ => false)
  | _ => false
def notDbg (x : Str) : Bool := !(x == ("__debug__" : Str)) && !(x == ("__classdict__" : Str)) && !(x == ("__name__" : Str)) && !(x == ("super" : Str))

def opB : Bop → Operator → Bool
  | .add, .Add => true | .sub, .Sub => true | .mul, .Mult => true | .fdiv, .FloorDiv => true
  | .mod, .Mod => true | .pow, .Pow => true | .shl, .LShift => true | _, _ => false
def copB : Cop → CmpOp → Bool
  | .eq, .Eq => true | .ne, .NotEq => true | .lt, .Lt => true | .le, .LtE => true | .gt, .Gt => true | .ge, .GtE => true
  | .isN, .Is => true | .notN, .IsNot => true | .isIn, .In => true | .notIn, .NotIn => true | _, _ => false
def bfName : Bf → Str
  | .len => "len" | .abs => "abs" | .repr => "repr" | .str => "str" | .int => "int" | .tuple => "tuple" | .list => "list" | .sum => "sum"
  | .all => "all" | .any => "any" | .min2 => "min" | .max2 => "max"
def bmName : Bm → Str
  | .append => "append" | .pop => "pop" | .popAt => "pop" | .extend => "extend" | .insert => "insert" | .bitlen => "bit_length" | .get1 => "get" | .get2 => "get" | .update => "update" | .join => "join" | .sindex => "index"
def tyName : Ty → Str
  | .int => "int" | .bool => "bool" | .str => "str" | .tuple => "tuple" | .list => "list" | .dict => "dict" | .own _ => ""
def isNone : Expr → Bool
  | .Constant .none _ _ => true
  | _ => false

/-- the names of types -/
def tyB (T : Tab) (sc : Scope) : List Ty → List Expr → Bool
  | [], [] => true
  | t :: ts, .Name x _ :: es => decide (x = tyName t) && glB sc x && T.blts.contains x && (match t with | .own _ => false | _ => true) && decide (t ∈ T.tys) && tyB T sc ts es
  | _, _ => false
/-- the second of isinstance -/
def tyN (T : Tab) (sc : Scope) (ts : List Ty) : Expr → Bool
  | .Name n p => decide (ts.length = 1) && tyB T sc ts [.Name n p]
  | .Tuple es _ _ => decide (ts.length ≤ 15) && tyB T sc ts es
  | _ => false
def bmAr : Bm → Nat
  | .append => 1 | .pop => 0 | .popAt => 1 | .extend => 1 | .insert => 2 | .bitlen => 0 | .get1 => 1 | .get2 => 2 | .update => 1 | .join => 1 | .sindex => 1
def litB : Lit → Const → Bool
  | .non, .none => true
  | .bl b, .bool c => b == c
  | .int i, .int j => i == j
  | .str x, .str y => decide (x = y)
  | _, _ => false
/-- sizes of argument lists -/
def fewB {α : Type} (es : List α) : Bool := decide (es.length < 30)

/-- a walk that gives pairs wants a tuple to store to -/
def tgOk : II → Expr → Bool
  | .enum _, .Tuple _ _ _ => true
  | .enum _, _ => false
  | _, _ => true
mutual
def chkE (T : Tab) (N : List Str) (sc : Scope) : IE → Expr → Bool
  | .lit l, .Constant c _ _ => litB l c
  | .var i, .Name x _ => decide (N[i]? = some x) && visB sc x && notDbg x
  | .glob g, .Name x _ => decide ((T.globs[g]?).map (·.1) = some x) && glB sc x && notDbg x
  | .bin op a b, .BinOp l o r _ => opB op o && chkE T N sc a l && chkE T N sc b r
  | .neg a, .UnaryOp .USub x _ => chkE T N sc a x
  | .not a, .UnaryOp .Not x _ => chkE T N sc a x
  | .and a b, .BoolOp .And (e :: e2 :: r) p => chkE T N sc a e && chkE T N sc b (match r with | [] => e2 | _ :: _ => .BoolOp .And (e2 :: r) p)
  | .or a b, .BoolOp .Or (e :: e2 :: r) p => chkE T N sc a e && chkE T N sc b (match r with | [] => e2 | _ :: _ => .BoolOp .Or (e2 :: r) p)
  | .cmp op a b, .Compare l [o] [r] _ => copB op o && chkE T N sc a l && chkE T N sc b r && !(behindInMarks o r)
  | .chain o1 o2 a b c, .Compare l [p1, p2] [m, r] _ => copB o1 p1 && copB o2 p2 && chkE T N sc a l && chkE T N sc b m && chkE T N sc c r && !(lastMarks [p1, p2] [m, r])
  | .ife c a b, .IfExp t x y _ => chkE T N sc c t && chkE T N sc a x && chkE T N sc b y
  | .tup es, .Tuple xs _ _ => chkEs T N sc es xs
  | .lst es, .List xs _ => chkEs T N sc es xs
  | .idx a b, .Subscript x y _ => chkE T N sc a x && chkE T N sc b y
  | .slc a lo hi, .Subscript x (.Slice l h none _) _ => chkE T N sc a x && chkO T N sc lo l && chkO T N sc hi h
  | .rev a, .Subscript x (.Slice none none (some (.UnaryOp .USub (.Constant (.int n) _ _) _)) _) _ => decide (n = 1) && chkE T N sc a x
  | .call f es, .Call (.Name x _) xs [] _ => decide ((T.fns[f]?).map (·.name) = some x) && glB sc x && notDbg x && chkEs T N sc es xs
  | .bi b es, .Call (.Name x _) xs [] _ => decide (x = bfName b) && glB sc x && notDbg x && T.blts.contains x && chkEs T N sc es xs && !xs.isEmpty
  | .isin a ts, .Call (.Name x _) [e, y] [] _ => decide (x = "isinstance") && glB sc x && T.blts.contains x && chkE T N sc a e && tyN T sc ts y
  | .bm m o es, .Call (.Attribute x nm ap) xs [] p => decide (nm = bmName m) && chkE T N sc o x && chkEs T N sc es xs && fewB xs && (ap.endLine == p.line) && decide (xs.length = bmAr m)
  | .dsp ds, .Dict ks vs _ => chkD T N sc ds ks vs && decide (ks.length ≤ 15)
  | .dcomp key elt own t it c, .DictComp kx e [⟨tg, ie, ifs, asy⟩] scope _ => decide (asy = 0) && chkI T N sc it ie && tgOk it tg && blkC N sc scope own && (slotsT t).all (fun i => (own.map (·.2)).contains i) && chkT T N scope (relS scope sc) t tg &&
      chkTO T N (relS scope sc) c ifs && chkE T N (relS scope sc) key kx && chkE T N (relS scope sc) elt e
  | .comp elt own t it c, .ListComp e [⟨tg, ie, ifs, asy⟩] scope _ => decide (asy = 0) && chkI T N sc it ie && tgOk it tg && blkC N sc scope own && (slotsT t).all (fun i => (own.map (·.2)).contains i) && chkT T N scope (relS scope sc) t tg &&
      chkTO T N (relS scope sc) c ifs && chkE T N (relS scope sc) elt e
  | _, _ => false
def chkEs (T : Tab) (N : List Str) (sc : Scope) : IEs → List Expr → Bool
  | .nil, [] => true
  | .cons e es, x :: xs => chkE T N sc e x && chkEs T N sc es xs
  | _, _ => false
def chkD (T : Tab) (N : List Str) (sc : Scope) : IDs → List (Option Expr) → List Expr → Bool
  | .nil, [], [] => true
  | .cons k e ds, some x :: ks, y :: vs => chkE T N sc k x && chkE T N sc e y && chkD T N sc ds ks vs
  | _, _, _ => false
def chkO (T : Tab) (N : List Str) (sc : Scope) : IO → Option Expr → Bool
  | .none, none => true
  | .some e, some x => chkE T N sc e x
  | _, _ => false
/-- a comprehension's tests: none or one -/
def chkTO (T : Tab) (N : List Str) (sc : Scope) : IO → List Expr → Bool
  | .none, [] => true
  | .some e, [x] => chkE T N sc e x
  | _, _ => false
def chkT (T : Tab) (N : List Str) (ow sc : Scope) : IT → Expr → Bool
  | .name i, .Name x _ => decide (N[i]? = some x) && stB ow sc x
  | .tup ts, .Tuple xs _ _ => chkTs T N ow sc ts xs
  | _, _ => false
def chkTs (T : Tab) (N : List Str) (ow sc : Scope) : ITs → List Expr → Bool
  | .nil, [] => true
  | .cons t ts, x :: xs => chkT T N ow sc t x && chkTs T N ow sc ts xs
  | _, _ => false
def chkI (T : Tab) (N : List Str) (sc : Scope) : II → Expr → Bool
  | .val e, x => chkE T N sc e x
  | .range1 a, .Call (.Name x _) [y] [] _ => decide (x = "range") && glB sc x && T.blts.contains x && chkE T N sc a y
  | .range2 a b, .Call (.Name x _) [y, z] [] _ => decide (x = "range") && glB sc x && T.blts.contains x && chkE T N sc a y && chkE T N sc b z
  | .range3 a b c, .Call (.Name x _) [y, z, u] [] _ => decide (x = "range") && glB sc x && T.blts.contains x && chkE T N sc a y && chkE T N sc b z && chkE T N sc c u
  | .enum e, .Call (.Name x _) [y] [] _ => decide (x = "enumerate") && glB sc x && T.blts.contains x && chkE T N sc e y
  | _, _ => false
end

/-- a list comprehension given to a name on its own line: which road its store takes -/
def isLc : Expr → Bool
  | .ListComp .. => true
  | .SetComp .. => true
  | .DictComp .. => true
  | _ => false
/-- what a tuple of targets may take without a swap of its stores -/
def foldTup : Expr → Bool
  | .Tuple vs _ _ => vs.all (foldedForSure 8)
  | _ => true
def lcSwap (sc : Scope) (x : Str) (px : Pos) : Expr → Bool
  | .ListComp _ _ s p => plB sc x && (px.line == p.line) && !(s.names.any fun y => y.1 == x && (y.2 == .local || y.2 == .cell))
  | .DictComp _ _ _ s p => plB sc x && (px.line == p.line) && !(s.names.any fun y => y.1 == x && (y.2 == .local || y.2 == .cell))
  | _ => false

/-- x, y = u, v -/
def parOf : List Expr → Expr → Option (Str × Pos × Str × Pos × Expr × Expr)
  | [.Tuple [.Name x px, .Name y py] _ _], .Tuple [u, v] _ _ => some (x, px, y, py, u, v)
  | _, _ => none
theorem parOf_inv {ts : List Expr} {w : Expr} {x y : Str} {px py : Pos} {u v : Expr} (h : parOf ts w = some (x, px, y, py, u, v)) : ∃ k p k2 p2, ts = [.Tuple [.Name x px, .Name y py] k p] ∧ w = .Tuple [u, v] k2 p2 := by
  unfold parOf at h
  split at h
  · injection h with h
    simp only [Prod.mk.injEq] at h
    obtain ⟨rfl, rfl, rfl, rfl, rfl, rfl⟩ := h
    exact ⟨_, _, _, _, rfl, rfl⟩
  · cases h
/-- x, y, z = u, v, w -/
def parOf3 : List Expr → Expr → Option (List (Str × Pos) × List Expr)
  | [.Tuple [.Name x px, .Name y py, .Name z pz] _ _], .Tuple [u, v, w] _ _ => some ([(x, px), (y, py), (z, pz)], [u, v, w])
  | _, _ => none
theorem parOf3_inv {ts : List Expr} {e : Expr} {xs : List (Str × Pos)} {us : List Expr} (h : parOf3 ts e = some (xs, us)) : ∃ x px y py z pz u v w k p k2 p2, xs = [(x, px), (y, py), (z, pz)] ∧ us = [u, v, w] ∧ ts = [.Tuple [.Name x px, .Name y py, .Name z pz] k p] ∧ e = .Tuple [u, v, w] k2 p2 := by
  unfold parOf3 at h
  split at h
  · injection h with h
    simp only [Prod.mk.injEq] at h
    obtain ⟨rfl, rfl⟩ := h
    exact ⟨_, _, _, _, _, _, _, _, _, _, _, _, _, rfl, rfl, rfl, rfl⟩
  · cases h
/-- first, *middle, last as targets -/
def starOf : List Expr → Option (List Expr × Str × Pos × Pos × List Expr)
  | [] => none
  | .Starred (.Name x px) p :: r => some ([], x, px, p, r)
  | e :: r => (starOf r).map fun q => (e :: q.1, q.2)
theorem starOf_inv : ∀ {ts pre post : List Expr} {x : Str} {px p : Pos}, starOf ts = some (pre, x, px, p, post) → ts = pre ++ .Starred (.Name x px) p :: post
  | [], _, _, _, _, _, h => by simp [starOf] at h
  | e :: r, pre, post, x, px, p, h => by
    unfold starOf at h
    split at h
    · cases h
    · rename_i heq
      cases heq
      injection h with h
      simp only [Prod.mk.injEq] at h
      obtain ⟨rfl, rfl, rfl, rfl, rfl⟩ := h
      rfl
    · rename_i heq
      cases heq
      cases q : starOf r with
      | none => rw [q] at h; cases h
      | some t =>
        rw [q] at h
        obtain ⟨a, b, c, d, f⟩ := t
        injection h with h
        simp only [Prod.mk.injEq] at h
        obtain ⟨rfl, rfl, rfl, rfl, rfl⟩ := h
        rw [starOf_inv q]
        rfl
mutual
def chkS (T : Tab) (N : List Str) (sc : Scope) : IS → Stmt → Bool
  | .set i e, .Assign [.Name x px] v _ => decide (N[i]? = some x) && chkE T N sc e v && (if lcSwap sc x px v then true else stB sc sc x)
  | .asg t e, .Assign [.Tuple ts k p] v _ => chkT T N sc sc t (.Tuple ts k p) && chkE T N sc e v && !isLc v && foldTup v
  | .par i j a b, .Assign ts w _ => match parOf ts w with
    | some (x, px, y, py, u, v) => decide (N[i]? = some x) && decide (N[j]? = some y) && decide (i ≠ j) && decide (x ≠ y) && plB sc x && plB sc y && chkE T N sc a u && chkE T N sc b v &&
      (px.line == py.line) && !([u, v].all (foldedForSure 8)) && !([u, v].all (constantsAlone 8))
    | none => false
  | .par3 i j l a b c, .Assign ts w _ => match parOf3 ts w with
    | some ([(x, px), (y, py), (z, pz)], [u, v, q]) => decide (N[i]? = some x) && decide (N[j]? = some y) && decide (N[l]? = some z) && decide (i ≠ j) && decide (i ≠ l) && decide (j ≠ l) && decide (x ≠ y) && decide (x ≠ z) && decide (y ≠ z) &&
      plB sc x && plB sc y && plB sc z && chkE T N sc a u && chkE T N sc b v && chkE T N sc c q && (px.line == py.line) && (px.line == pz.line) && !([u, v, q].all (foldedForSure 8)) && !([u, v, q].all (constantsAlone 8))
    | _ => false
  | .star ts i e, .Assign [.Tuple es k p] v _ => match starOf es with
    | some (a, x, px, _, b) => decide (a.length = i) && chkTs T N sc sc ts (a ++ .Name x px :: b) && chkE T N sc e v && !isLc v && foldTup v
    | none => false
  | .aug i op e, .AugAssign (.Name x _) o v _ => decide (N[i]? = some x) && stB sc sc x && opB op o && chkE T N sc e v
  | .idx o k e, .Assign [.Subscript x y _] v _ => chkE T N sc o x && chkE T N sc k y && chkE T N sc e v && !isLc v
  | .ex e, .Expr v _ => chkE T N sc e v && !isLc v
  | .ret e, .Return (some v) _ => chkE T N sc e v
  | .retN, .Return none _ => true
  | .ife c a b, .If t x y _ => chkE T N sc c t && chkSs T N sc a x && chkSs T N sc b y
  | .for_ t it b, .For tg ie x [] _ => chkT T N sc sc t tg && chkI T N sc it ie && tgOk it tg && chkSs T N sc b x
  | .whl c b, .While t x [] _ => chkE T N sc c t && chkSs T N sc b x
  | .pass, .Pass _ => true
  | .brk, .Break _ => true
  | .cont, .Continue _ => true
  | _, _ => false
def chkSs (T : Tab) (N : List Str) (sc : Scope) : ISs → List Stmt → Bool
  | .nil, [] => true
  | .cons s ss, x :: xs => chkS T N sc s x && chkSs T N sc ss xs
  | _, _ => false
end

end Pd

/-! Pd, part 4: what it means that a step of the evaluator is kept by the machine; the smallest rules. -/
namespace Pd
open PySem PySem.Spec L2

def RepE (w : Wd) (ρ : List Addr) (H : Hp) : Env → St → Prop
  | [], σ => σ = []
  | none :: e, σ => ∃ s r, σ = s :: r ∧ RepE w ρ H e r
  | some v :: e, σ => ∃ x r, σ = some x :: r ∧ RepV w ρ H v x ∧ RepE w ρ H e r
theorem RepE.ext {w : Wd} {ρ ρ' : List Addr} {H H' : Hp} (e : Ext ρ H ρ' H') : ∀ (env : Env) (σ : L2.St), RepE w ρ H env σ → RepE w ρ' H' env σ
  | [], _, h => h
  | none :: env, σ, ⟨s, r, h1, h2⟩ => ⟨s, r, h1, RepE.ext e env r h2⟩
  | some v :: env, σ, ⟨x, r, h1, h2, h3⟩ => ⟨x, r, h1, h2.ext e, RepE.ext e env r h3⟩
theorem RepE.get {w : Wd} {ρ : List Addr} {H : Hp} : ∀ {env : Env} {σ : St} {i : Nat} {v : Val}, RepE w ρ H env σ → envGet env i = some v → ∃ x, σ[i]? = some (some x) ∧ RepV w ρ H v x
  | [], _, _, _, _, h => nomatch h
  | none :: env, _, 0, _, _, h => nomatch h
  | none :: env, _, i + 1, v, ⟨s, r, h1, h2⟩, h => by
    subst h1
    obtain ⟨x, q1, q2⟩ := RepE.get (i := i) h2 h
    exact ⟨x, by simpa using q1, q2⟩
  | some u :: env, _, 0, v, ⟨x, r, h1, h2, h3⟩, h => by
    subst h1
    have e : u = v := Option.some.inj h
    subst e
    exact ⟨x, by simp, h2⟩
  | some u :: env, _, i + 1, v, ⟨x, r, h1, h2, h3⟩, h => by
    subst h1
    obtain ⟨x, q1, q2⟩ := RepE.get (i := i) h3 h
    exact ⟨x, by simpa using q1, q2⟩
theorem RepE.set {w : Wd} {ρ : List Addr} {H : Hp} {v : Val} {x : V} (q : RepV w ρ H v x) : ∀ {env : Env} {σ : St} (i : Nat), RepE w ρ H env σ → RepE w ρ H (envSet env i v) (σ.set i (some x))
  | [], _, i, h => by subst h; simp [envSet, RepE]
  | none :: env, _, 0, ⟨s, r, h1, h2⟩ => by subst h1; exact ⟨x, r, rfl, q, h2⟩
  | some u :: env, _, 0, ⟨_, r, h1, _, h3⟩ => by subst h1; exact ⟨x, r, rfl, q, h3⟩
  | none :: env, _, i + 1, ⟨s, r, h1, h2⟩ => by subst h1; exact ⟨s, _, rfl, RepE.set q i h2⟩
  | some u :: env, _, i + 1, ⟨y, r, h1, h2, h3⟩ => by subst h1; exact ⟨y, _, rfl, h2, RepE.set q i h3⟩
theorem RepE.del {w : Wd} {ρ : List Addr} {H : Hp} : ∀ {env : Env} {σ : St} (i : Nat), RepE w ρ H env σ → RepE w ρ H (envDel env i) (σ.set i none)
  | [], _, i, h => by subst h; simp [envDel, RepE]
  | none :: env, _, 0, ⟨s, r, h1, h2⟩ => by subst h1; exact ⟨_, r, rfl, h2⟩
  | some u :: env, _, 0, ⟨_, r, h1, _, h3⟩ => by subst h1; exact ⟨_, r, rfl, h3⟩
  | none :: env, _, i + 1, ⟨s, r, h1, h2⟩ => by subst h1; exact ⟨s, _, rfl, RepE.del i h2⟩
  | some u :: env, _, i + 1, ⟨y, r, h1, h2, h3⟩ => by subst h1; exact ⟨y, _, rfl, h2, RepE.del i h3⟩
theorem RepE.dels {w : Wd} {ρ : List Addr} {H : Hp} {env : Env} {σ : St} (h : RepE w ρ H env σ) : ∀ is : List Nat, RepE w ρ H (envDels env is) (wipe σ is)
  | [] => h
  | i :: is => RepE.del i (RepE.dels h is)

def RepX (w : Wd) (ρ : List Addr) (H : Hp) (x : Exn) (cls : Value) (d : Option Addr) : Prop :=
  ∃ C, w.exc x.cls = some C ∧ cls = .ref C ∧ ((x.fs = [] ∧ d = none) ∨ ∃ dx fv, d = some dx ∧ dx ∉ ρ ∧ H dx = some (.xd fv) ∧ RepKV w ρ H x.fs fv)

/-- what is wanted behind r, of things b that stand for a by rel -/
def Post {α β : Type} (w : Wd) (W : WX) (σ : St) (rel : List Addr → Hp → α → β → Prop) (ρ : List Addr) (H : Hp) (r : Res α) (Q : β → Hp → Prop) : Prop :=
  match r with
  | .ok v S => ∀ x ρ' H', Ext ρ H ρ' H' → rel ρ' H' v x → RepS w ρ' H' S → Q x H'
  | .exc x S => ∀ cls d ρ' H', Ext ρ H ρ' H' → RepX w ρ' H' x cls d → RepS w ρ' H' S → W cls d σ H'
  | .bad => False

theorem Post.imp {α β : Type} {w : Wd} {W : WX} {σ : St} {rel : List Addr → Hp → α → β → Prop} {ρ : List Addr} {H : Hp} {r : Res α} {Q Q' : β → Hp → Prop} (h : Post w W σ rel ρ H r Q) (f : ∀ x H', Q x H' → Q' x H') : Post w W σ rel ρ H r Q' := by
  cases r with
  | ok v S => exact fun x ρ' H' e1 e2 e3 => f _ _ (h x ρ' H' e1 e2 e3)
  | exc x S => exact h
  | bad => exact h
theorem Post.later {α β : Type} {w : Wd} {W : WX} {σ : St} {rel : List Addr → Hp → α → β → Prop} {ρ ρ1 : List Addr} {H H1 : Hp} {r : Res α} {Q : β → Hp → Prop} (e : Ext ρ H ρ1 H1) (h : Post w W σ rel ρ H r Q) : Post w W σ rel ρ1 H1 r Q := by
  cases r with
  | ok v S => exact fun x ρ' H' e1 e2 e3 => h x ρ' H' (e.trans e1) e2 e3
  | exc x S => exact fun c d ρ' H' e1 e2 e3 => h c d ρ' H' (e.trans e1) e2 e3
  | bad => exact h
theorem bind_app {α β : Type} (m : M α) (f : α → M β) (S : Store) : (m >>= f) S = match m S with | .ok a S' => f a S' | .exc x S' => .exc x S' | .bad => .bad := rfl
theorem pure_app {α : Type} (a : α) (S : Store) : (pure a : M α) S = .ok a S := rfl
/-- a step, then another -/
theorem Post.bind {α β α' β' : Type} {w : Wd} {W : WX} {σ : St} {rel : List Addr → Hp → α → β → Prop} {rel' : List Addr → Hp → α' → β' → Prop} {ρ : List Addr} {H : Hp} {S : Store} {m : M α} {f : α → M α'} {Q : β' → Hp → Prop}
    (h : Post w W σ rel' ρ H ((m >>= f) S) Q) :
    Post w W σ rel ρ H (m S) (fun x H1 => ∃ v ρ1 S1, Ext ρ H ρ1 H1 ∧ rel ρ1 H1 v x ∧ RepS w ρ1 H1 S1 ∧ Post w W σ rel' ρ1 H1 (f v S1) Q) := by
  have e : (m >>= f) S = match m S with | .ok a S' => f a S' | .exc x S' => .exc x S' | .bad => .bad := rfl
  rw [e] at h
  cases q : m S with
  | ok v S1 =>
    rw [q] at h
    exact fun x ρ1 H1 e1 e2 e3 => ⟨v, ρ1, S1, e1, e2, e3, h.later e1⟩
  | exc x S1 => rw [q] at h; exact h
  | bad => rw [q] at h; exact h
theorem Post.ok {α β : Type} {w : Wd} {W : WX} {σ : St} {rel : List Addr → Hp → α → β → Prop} {ρ : List Addr} {H : Hp} {S : Store} {v : α} {x : β} {Q : β → Hp → Prop} (h : Post w W σ rel ρ H (.ok v S) Q) (r : rel ρ H v x) (s : RepS w ρ H S) : Q x H :=
  h x ρ H (Ext.refl _ _) r s

/-- an expression -/
structure DE (w : Wd) (W : WX) (X : Cx) (e : Expr) (m : Env → M Val) : Prop where
  ex : ∃ t, PE X e t ∧ ∀ ρ σ H env S (Q : VK), RepE w ρ H env σ → RepS w ρ H S → Post w W σ (RepV w) ρ H (m env S) Q → t σ H Q
/-- a test -/
structure DT (w : Wd) (W : WX) (X : Cx) (e : Expr) (m : Env → M Bool) : Prop where
  ex : ∃ t, PT X e t ∧ ∀ ρ σ H env S (Q : Bool → Hp → Prop), RepE w ρ H env σ → RepS w ρ H S → Post w W σ (fun _ _ a b => a = b) ρ H (m env S) Q → t σ H Q
/-- arguments -/
structure DA (w : Wd) (W : WX) (X : Cx) (es : List Expr) (m : Env → M (List Val)) : Prop where
  ex : ∃ t, PA X es t ∧ ∀ ρ σ H env S (Q : List V → Hp → Prop), RepE w ρ H env σ → RepS w ρ H S → Post w W σ (RepVs w) ρ H (m env S) Q → t σ H Q

/-! ### what a def promises, no repr under way -/
structure FnG (P : Program) (wo : World) (K : PySem.W.Frag) (mg : Str → Option Value) (base : Heap) (k : Nat) (f : Addr) (fd : FuncData) (ps : List Str) (sp : Sp) : Prop where
  len : ∀ vs H Q E, sp vs H Q E → vs.length = ps.length
  run : ∀ (A : Around) (outer : List PySem.Env) (s : Shared) (H : Hp) (args : Args) (us : List Value) (vs : List V) (Q : VK) (E : XK), Room k A → A.guards = some [] → Env0 P wo K mg base A outer s H →
    BindsTo s fd args (ps.zip us) → Vals vs us → sp vs H Q E → codeAny (model P wo) A (.call (.ref f) args) (CR (CX P wo) outer P wo H s Q E) s

/-- what the caller may count on of def f at level k -/
def spOf (w : Wd) (T : Tab) (fuel k f : Nat) : Sp := fun vs H Q E => ∃ d ρ S args, T.fns[f]? = some d ∧ RepVs w ρ H args vs ∧ RepS w ρ H S ∧ args.length = d.np ∧
  Post w (fun c d _ H => E c d H) [] (RepV w) ρ H (callF T fuel k f args S) Q

structure FnAt (P : Program) (wo : World) (w : Wd) (mg : Str → Option Value) (base : Heap) (T : Tab) (fuel k f : Nat) (d : FnD) : Prop where
  ex : ∃ a fd, mg d.name = some (.ref a) ∧ PySem.W.keepIn w.K (.ref a) = true ∧ Binds w.K fd (d.N.take d.np) [] ∧ FnG P wo w.K mg base (2 * k) a fd (d.N.take d.np) (spOf w T fuel k f)

/-- what isinstance asks of a class of the text's own -/
structure ClsAt (K : PySem.W.Frag) (C : Addr) : Prop where
  cl : Cls K C
  ha : PySem.W.findIn K (.ref C) "__class__" = some (some (.builtin "object.__class__"))
  hn : PySem.W.specialIn K (.builtin "object.__class__") "__get__" = some (some (.builtin "getset_descriptor.__get__"))
  ht : PySem.W.takesIn K (.builtin "object.__class__") = some true
  hm : PySem.W.mroIn K C (.type "object") = some true
def tyVal (w : Wd) : Option Ty → Option Value
  | none => some (.type "NoneType")
  | some .int => some (.type "int") | some .bool => some (.type "bool") | some .str => some (.type "str") | some .tuple => some (.type "tuple")
  | some .list => some (.type "list") | some .dict => some (.type "dict")
  | some (.own c) => (w.cls c).map fun p => .ref p.1
/-- the context of a text -/
structure Good (w : Wd) (T : Tab) (fuel k : Nat) (N : List Str) (ow sc : Scope) (W : WX) (X : Cx) : Prop where
  hN : X.N = N
  nd : X.N.Nodup
  hsc : X.env.scope = sc
  hK : X.K = w.K
  calm : X.calm = true
  room : Room (2 * k + 1) X.A
  grd : X.A.guards = some []
  tk : Takes X W
  hst : ∀ x, stB ow sc x = true → L2.Loc X.env.scope x ∧ (X.fn x = true ∨ X.env.scope.names.lookup x = some .local)
  fns : ∀ f d, T.fns[f]? = some d → FnAt X.prog X.w w X.mg X.base T fuel k f d
  globs : ∀ (g : Nat) x v, T.globs[g]? = some (x, v) → ∃ u xv, X.mg x = some u ∧ RelV xv u ∧ ∀ ρ H, RepV w ρ H v xv
  blts : ∀ x ∈ T.blts, X.mg x = none
  cls : ∀ c C ns, w.cls c = some (C, ns) → ClsAt w.K C
  isi : ∀ (t : Option Ty) (c : Ty) (u v : Value), c ∈ T.tys → tyVal w t = some u → tyVal w (some c) = some v → PySem.W.kitOne w.K u v = some (tyMatch t c)

section
variable {w : Wd} {T : Tab} {fuel k : Nat} {N : List Str} {ow sc : Scope} {W : WX} {X : Cx}

theorem vis_of {x : Str} (h : visB sc x = true) : Vis sc x := by
  unfold visB at h
  unfold Vis
  split at h <;> first | exact .inl (by assumption) | exact .inr (.inl (by assumption)) | exact .inr (.inr (by assumption)) | cases h
theorem gl_of (G : Good w T fuel k N ow sc W X) {x : Str} (h : glB sc x = true) : Gl X x := by
  unfold glB at h
  unfold Gl PySem.Env.kindOf
  rw [G.hsc]
  split at h
  · assumption
  · cases h
theorem loc_of {x : Str} (h : locB sc x = true) : L2.Loc sc x := by
  unfold locB at h
  unfold L2.Loc
  split at h <;> first | exact .inl (by assumption) | exact .inr (by assumption) | cases h
theorem pl_of {x : Str} (h : plB sc x = true) : sc.names.lookup x = some .local := by
  unfold plB at h
  split at h
  · assumption
  · cases h
theorem dbg_of {x : Str} (h : notDbg x = true) : (x == ("__debug__" : Str)) = false ∧ (x == ("__classdict__" : Str)) = false ∧ x ≠ "__name__" := by
  unfold notDbg at h
  simp only [Bool.and_eq_true, Bool.not_eq_true'] at h
  exact ⟨h.1.1.1, h.1.1.2, fun e => by rw [e] at h; exact absurd h.1.2 (by decide)⟩
theorem sup_of {x : Str} (h : notDbg x = true) : x ≠ "super" := by
  unfold notDbg at h
  simp only [Bool.and_eq_true, Bool.not_eq_true'] at h
  exact fun e => by rw [e] at h; exact absurd h.2 (by decide)

/-! ### constants and names -/
theorem de_lit {l : Lit} {c : Const} {j : Nat} {pos : Pos} (h : litB l c = true) : DE w W X (.Constant c j pos) (fun _ => pure l.val) := by
  cases l with
  | non => cases c <;> first | exact ⟨_, pe_non, fun ρ σ H env S Q re rs p => p.ok (by simp [Lit.val, RepV]) rs⟩ | cases h
  | bl b => cases c with
    | bool b' =>
      have e : b = b' := by simpa [litB] using h
      subst e
      exact ⟨_, pe_bl, fun ρ σ H env S Q re rs p => p.ok (by simp [Lit.val, RepV]) rs⟩
    | _ => cases h
  | int i => cases c with
    | int i' =>
      have e : i = i' := by simpa [litB] using h
      subst e
      exact ⟨_, pe_int, fun ρ σ H env S Q re rs p => p.ok (by simp [Lit.val, RepV]) rs⟩
    | _ => cases h
  | str x => cases c with
    | str x' =>
      have e : x = x' := by simpa [litB] using h
      subst e
      exact ⟨_, pe_str, fun ρ σ H env S Q re rs p => p.ok (by simp [Lit.val, RepV]) rs⟩
    | _ => cases h
theorem de_var (G : Good w T fuel k N ow sc W X) {i : Nat} {x : Str} {pos : Pos} (h : (decide (N[i]? = some x) && visB sc x && notDbg x) = true) : DE w W X (.Name x pos) (fun env => ofOpt (envGet env i)) := by
  simp only [Bool.and_eq_true, decide_eq_true_eq] at h
  obtain ⟨⟨h1, h2⟩, h3⟩ := h
  obtain ⟨d1, d2, _⟩ := dbg_of h3
  refine ⟨_, pe_var (i := i) (by rw [G.hN]; exact h1) (by rw [G.hsc]; exact vis_of h2) d1 d2, fun ρ σ H env S Q re rs p => ?_⟩
  unfold ofOpt at p
  cases q : envGet env i with
  | none => rw [q] at p; exact p.elim
  | some v =>
    rw [q] at p
    obtain ⟨y, e1, e2⟩ := re.get q
    exact ⟨y, e1, p.ok e2 rs⟩
theorem de_glob (G : Good w T fuel k N ow sc W X) {g : Nat} {x : Str} {pos : Pos} (h : (decide ((T.globs[g]?).map (·.1) = some x) && glB sc x && notDbg x) = true) : DE w W X (.Name x pos) (fun _ => ofOpt ((T.globs[g]?).map (·.2))) := by
  simp only [Bool.and_eq_true, decide_eq_true_eq] at h
  obtain ⟨⟨h1, h2⟩, h3⟩ := h
  obtain ⟨d1, d2, _⟩ := dbg_of h3
  cases q : T.globs[g]? with
  | none => rw [q] at h1; cases h1
  | some xv =>
    obtain ⟨x', v⟩ := xv
    rw [q] at h1
    have e : x' = x := Option.some.inj h1
    subst e
    obtain ⟨u, xv, m1, m2, m3⟩ := G.globs g x' v q
    refine ⟨_, pe_glob (v := xv) (gl_of G h2) m1 m2 d1, fun ρ σ H env S Q re rs p => ?_⟩
    exact p.ok (m3 ρ H) rs

/-! ### two-place steps -/
theorem de_bin2 {a b : Expr} {ma mb : Env → M Val} {op : Operator} {f : Val → Val → M Val} {r : R2} {pos : Pos} (ho : OpR X (binaryOp op) r) (ha : DE w W X a ma) (hb : DE w W X b mb)
    (hf : ∀ ρ σ H S x y u v (Q : VK), RepV w ρ H u x → RepV w ρ H v y → RepS w ρ H S → Post w W σ (RepV w) ρ H (f u v S) Q → r x y H Q) :
    DE w W X (.BinOp a op b pos) (fun env => do let x ← ma env; let y ← mb env; f x y) := by
  obtain ⟨ta, pa, qa⟩ := ha.ex
  obtain ⟨tb, pb, qb⟩ := hb.ex
  refine ⟨_, pe_op ho pa pb, fun ρ σ H env S Q re rs p => ?_⟩
  refine qa ρ σ H env S _ re rs (p.bind.imp fun x H1 ⟨u, ρ1, S1, e1, r1, s1, p1⟩ => ?_)
  refine qb ρ1 σ H1 env S1 _ (re.ext e1) s1 (p1.bind.imp fun y H2 ⟨v, ρ2, S2, e2, r2, s2, p2⟩ => ?_)
  exact hf ρ2 σ H2 S2 x y u v Q (r1.ext e2) r2 s2 p2
theorem de_cmp2 {a b : Expr} {ma mb : Env → M Val} {op : CmpOp} {f : Val → Val → M Val} {r : R2} {pos : Pos} (ho : OpR X (compareOp op) r) (ha : DE w W X a ma) (hb : DE w W X b mb) (hm : behindInMarks op b = false)
    (hf : ∀ ρ σ H S x y u v (Q : VK), RepV w ρ H u x → RepV w ρ H v y → RepS w ρ H S → Post w W σ (RepV w) ρ H (f u v S) Q → r x y H Q) :
    DE w W X (.Compare a [op] [b] pos) (fun env => do let x ← ma env; let y ← mb env; f x y) := by
  obtain ⟨ta, pa, qa⟩ := ha.ex
  obtain ⟨tb, pb, qb⟩ := hb.ex
  refine ⟨_, pe_cmpR ho pa pb hm, fun ρ σ H env S Q re rs p => ?_⟩
  refine qa ρ σ H env S _ re rs (p.bind.imp fun x H1 ⟨u, ρ1, S1, e1, r1, s1, p1⟩ => ?_)
  refine qb ρ1 σ H1 env S1 _ (re.ext e1) s1 (p1.bind.imp fun y H2 ⟨v, ρ2, S2, e2, r2, s2, p2⟩ => ?_)
  exact hf ρ2 σ H2 S2 x y u v Q (r1.ext e2) r2 s2 p2
theorem M.assoc {α β γ : Type} (m : M α) (f : α → M β) (g : β → M γ) : (m >>= f) >>= g = m >>= fun x => f x >>= g := by
  funext S
  show (match (match m S with | .ok a S' => f a S' | .exc x S' => .exc x S' | .bad => .bad : Res β) with | .ok a S' => g a S' | .exc x S' => .exc x S' | .bad => .bad) = (match m S with | .ok a S' => (f a >>= g) S' | .exc x S' => .exc x S' | .bad => .bad)
  cases m S <;> rfl
/-- a step that gives a truth, asked for its truth -/
theorem Post.asked {w : Wd} {W : WX} {σ : L2.St} {ρ : List Addr} {H : Hp} {S : Store} {m : M Val} {Q : Bool → Hp → Prop} (h : Post w W σ (fun _ _ a b => a = b) ρ H ((m >>= truthM) S) Q)
    (hb : ∀ v S', m S = .ok v S' → ∃ c, v = .bl c) : Post w W σ (RepV w) ρ H (m S) (fun z H' => ∃ c, z = .bl c ∧ Q c H') := by
  rw [bind_app] at h
  cases q : m S with
  | ok v S1 =>
    rw [q] at h
    obtain ⟨c, rfl⟩ := hb v S1 q
    refine fun x ρ1 H1 e1 e2 e3 => ?_
    simp only [RepV] at e2
    exact ⟨c, e2, h c ρ1 H1 e1 rfl e3⟩
  | exc x S1 => rw [q] at h; exact h
  | bad => rw [q] at h; exact h
/-- a comparison as a test -/
theorem dt_cmp2 {a b : Expr} {ma mb : Env → M Val} {op : CmpOp} {f : Val → Val → M Val} {r : R2} {pos : Pos} (ho : OpR X (compareOp op) r) (ha : DE w W X a ma) (hb : DE w W X b mb) (hm : behindInMarks op b = false)
    (hf : ∀ ρ σ H S x y u v (Q : VK), RepV w ρ H u x → RepV w ρ H v y → RepS w ρ H S → Post w W σ (RepV w) ρ H (f u v S) Q → r x y H Q)
    (hbool : ∀ u v S v' S', f u v S = .ok v' S' → ∃ c, v' = .bl c) :
    DT w W X (.Compare a [op] [b] pos) (fun env => (do let x ← ma env; let y ← mb env; f x y) >>= truthM) := by
  obtain ⟨ta, pa, qa⟩ := ha.ex
  obtain ⟨tb, pb, qb⟩ := hb.ex
  refine ⟨_, pt_cmpR ho pa pb hm, fun ρ σ H env S Q re rs p => ?_⟩
  simp only [M.assoc] at p
  refine qa ρ σ H env S _ re rs (p.bind.imp fun x H1 ⟨u, ρ1, S1, e1, r1, s1, p1⟩ => ?_)
  refine qb ρ1 σ H1 env S1 _ (re.ext e1) s1 (p1.bind.imp fun y H2 ⟨v, ρ2, S2, e2, r2, s2, p2⟩ => ?_)
  exact hf ρ2 σ H2 S2 x y u v _ (r1.ext e2) r2 s2 (p2.asked (hbool u v S2))
end
end Pd

/-! Pd, part 5: rules for truth, and, or, not, displays, calls. -/
namespace Pd
open PySem PySem.Spec L2

theorem RepVs.isEmpty {w : Wd} {ρ : List Addr} {H : Hp} {xs : List Val} {vs : List V} (h : RepVs w ρ H xs vs) : vs.isEmpty = xs.isEmpty := by
  have := h.length
  cases xs <;> cases vs <;> simp_all
theorem RepKV.length {κ : Type} {w : Wd} {ρ : List Addr} {H : Hp} : ∀ {xs : List (κ × Val)} {vs : List (κ × V)}, RepKV w ρ H xs vs → vs.length = xs.length
  | [], _, h => by simp only [RepKV] at h; subst h; rfl
  | (k, x) :: xs, _, h => by
    simp only [RepKV] at h
    obtain ⟨v, r, rfl, _, h3⟩ := h
    simp [RepKV.length h3]

section
variable {w : Wd} {ρ : List Addr} {H : Hp} {S : Store}
theorem lst_at (rs : RepS w ρ H S) {i : Nat} {a : Addr} {xs : List Val} (h : ρ[i]? = some a) (e : S[i]? = some (.lst xs)) : ∃ vs, H a = some (.lst vs) ∧ RepVs w ρ H xs vs := by
  obtain ⟨o, h1, vs, rfl, h2⟩ := rs.cell i a _ h e
  exact ⟨vs, h1, h2⟩
theorem dct_at (rs : RepS w ρ H S) {i : Nat} {a : Addr} {xs : List (DKey × Val)} (h : ρ[i]? = some a) (e : S[i]? = some (.dct xs)) : ∃ vs, H a = some (.dK vs) ∧ RepKV w ρ H xs vs := by
  obtain ⟨o, h1, vs, rfl, h2⟩ := rs.cell i a _ h e
  exact ⟨vs, h1, h2⟩
theorem dtt_at (rs : RepS w ρ H S) {i : Nat} {a : Addr} {xs : List (List DKey × Val)} (h : ρ[i]? = some a) (e : S[i]? = some (.dtt xs)) : ∃ vs, H a = some (.dT vs) ∧ RepKV w ρ H xs vs := by
  obtain ⟨o, h1, vs, rfl, h2⟩ := rs.cell i a _ h e
  exact ⟨vs, h1, h2⟩
theorem size_eq : sizeMax = sizeLine := by rw [sizeLine_eq]; rfl

theorem tru_of (rs : RepS w ρ H S) {v : Val} {x : V} {b : Bool} (r : RepV w ρ H v x) (h : truth S v = some b) : TruV w.K x H b := by
  cases v with
  | non => simp only [RepV] at r; subst r; simp [truth] at h; subst h; rfl
  | bl c => simp only [RepV] at r; subst r; simp [truth] at h; subst h; rfl
  | int i => simp only [RepV] at r; subst r; simp [truth] at h; subst h; rfl
  | str y =>
    simp only [RepV] at r; subst r
    unfold truth at h
    dsimp only at h
    split at h
    · rename_i hz
      have e := Option.some.inj h
      refine ⟨by rw [← size_eq]; exact hz, ?_⟩
      rw [← e]
      by_cases q : y.length = 0
      · rw [q]; rfl
      · have a : (y.length : Int) ≠ 0 := by omega
        rw [bne_iff_ne.mpr q, bne_iff_ne.mpr a]
    · cases h
  | tup xs =>
    simp only [RepV] at r
    obtain ⟨a, vs, rfl, h1, h2⟩ := r
    have e := Option.some.inj h
    exact .inr (.inl ⟨vs, h1.sq, by rw [← e, h2.isEmpty]⟩)
  | ins c fs => cases h
  | scr ns =>
    simp only [RepV] at r
    obtain ⟨a, rfl, h1⟩ := r
    have e := Option.some.inj h
    refine .inl ⟨_, h1.sq, ?_⟩
    rw [← e]
    cases ns <;> rfl
  | ref i =>
    simp only [RepV] at r
    obtain ⟨a, rfl, h1⟩ := r
    unfold truth at h
    dsimp only at h
    split at h
    · rename_i xs q
      obtain ⟨vs, h2, h3⟩ := lst_at rs h1 q
      have e := Option.some.inj h
      exact .inl ⟨vs, SqL.of h2, by rw [← e, h3.isEmpty]⟩
    · rename_i kvs q
      obtain ⟨vs, h2, h3⟩ := dct_at rs h1 q
      have e := Option.some.inj h
      refine .inr (.inr ⟨vs, h2, ?_⟩)
      have := h3.length
      rw [← e]
      cases kvs <;> cases vs <;> simp_all
    · cases h
end

section
variable {w : Wd} {T : Tab} {fuel k : Nat} {N : List Str} {ow sc : Scope} {W : WX} {X : Cx}

/-- what truthM tells -/
theorem Post.truth {σ : L2.St} {ρ : List Addr} {H : Hp} {S : Store} {v : Val} {x : V} {Q : Bool → Hp → Prop} (p : Post w W σ (fun _ _ a b => a = b) ρ H (truthM v S) Q) (r : RepV w ρ H v x) (rs : RepS w ρ H S) :
    ∃ b, TruV w.K x H b ∧ Q b H := by
  unfold truthM at p
  cases q : Pd.truth S v with
  | none => rw [q] at p; exact p.elim
  | some b => rw [q] at p; exact ⟨b, tru_of rs r q, p.ok rfl rs⟩

theorem dt_plain (G : Good w T fuel k N ow sc W X) {e : Expr} {m : Env → M Val} (h : DE w W X e m) (he : ∀ whole, isTrue e X.env whole = (do let v ← whole; standAt e.pos; holding [v] (truthy v))) : DT w W X e (fun env => m env >>= truthM) := by
  obtain ⟨t, pt, q⟩ := h.ex
  refine ⟨_, pt_truth pt he, fun ρ σ H env S Q re rs p => ?_⟩
  refine q ρ σ H env S _ re rs (p.bind.imp fun x H1 ⟨u, ρ1, S1, e1, r1, s1, p1⟩ => ?_)
  obtain ⟨b, h1, h2⟩ := p1.truth r1 s1
  exact ⟨b, by rw [G.hK]; exact h1, h2⟩

theorem de_not (G : Good w T fuel k N ow sc W X) {e : Expr} {m : Env → M Val} {pos : Pos} (h : DE w W X e m) : DE w W X (.UnaryOp .Not e pos) (fun env => do let x ← m env; let t ← truthM x; pure (.bl (!t))) := by
  obtain ⟨t, pt, q⟩ := h.ex
  refine ⟨_, pe_notT pt, fun ρ σ H env S Q re rs p => ?_⟩
  refine q ρ σ H env S _ re rs (p.bind.imp fun x H1 ⟨u, ρ1, S1, e1, r1, s1, p1⟩ => ?_)
  obtain ⟨b, h1, c, ρ2, S2, e2, rfl, s2, p2⟩ := (p1.bind (rel := fun _ _ a b => a = b)).truth r1 s1
  exact ⟨c, by rw [G.hK]; exact h1, p2.ok (by simp [RepV]) s2⟩
theorem dt_not {e : Expr} {m : Env → M Val} {pos : Pos} (h : DT w W X e (fun env => m env >>= truthM)) : DT w W X (.UnaryOp .Not e pos) (fun env => (do let x ← m env; let t ← truthM x; pure (.bl (!t))) >>= truthM) := by
  obtain ⟨t, pt, q⟩ := h.ex
  refine ⟨_, pt_not pt, fun ρ σ H env S Q re rs p => ?_⟩
  have e1 : ((do let x ← m env; let t ← truthM x; pure (.bl (!t))) >>= truthM : M Bool) = ((m env >>= truthM) >>= fun t => pure (!t)) := by
    rw [M.assoc, M.assoc]
    congr 1
    funext x
    rw [M.assoc]
    rfl
  rw [e1] at p
  refine q ρ σ H env S _ re rs (p.bind.imp fun b H1 ⟨c, ρ1, S1, e1, r1, s1, p1⟩ => ?_)
  subst r1
  exact p1.ok rfl s1
theorem de_and (G : Good w T fuel k N ow sc W X) {a b : Expr} {r : List Expr} {ma mb : Env → M Val} {pos : Pos} (ha : DE w W X a ma) (hb : DE w W X (.BoolOp .And (b :: r) pos) mb) :
    DE w W X (.BoolOp .And (a :: b :: r) pos) (fun env => do let x ← ma env; let t ← truthM x; if t then mb env else pure x) := by
  obtain ⟨ta, pa, qa⟩ := ha.ex
  obtain ⟨tb, pb, qb⟩ := hb.ex
  refine ⟨_, pe_andT pa pb, fun ρ σ H env S Q re rs p => ?_⟩
  refine qa ρ σ H env S _ re rs (p.bind.imp fun x H1 ⟨u, ρ1, S1, e1, r1, s1, p1⟩ => ?_)
  obtain ⟨b, h1, c, ρ2, S2, e2, rfl, s2, p2⟩ := (p1.bind (rel := fun _ _ a b => a = b)).truth r1 s1
  refine ⟨c, by rw [G.hK]; exact h1, ?_⟩
  cases c with
  | true => exact qb ρ2 σ H1 env S2 _ (re.ext (e1.trans e2)) s2 p2
  | false => exact p2.ok (r1.ext e2) s2
theorem de_or (G : Good w T fuel k N ow sc W X) {a b : Expr} {r : List Expr} {ma mb : Env → M Val} {pos : Pos} (ha : DE w W X a ma) (hb : DE w W X (.BoolOp .Or (b :: r) pos) mb) :
    DE w W X (.BoolOp .Or (a :: b :: r) pos) (fun env => do let x ← ma env; let t ← truthM x; if t then pure x else mb env) := by
  obtain ⟨ta, pa, qa⟩ := ha.ex
  obtain ⟨tb, pb, qb⟩ := hb.ex
  refine ⟨_, pe_orT pa pb, fun ρ σ H env S Q re rs p => ?_⟩
  refine qa ρ σ H env S _ re rs (p.bind.imp fun x H1 ⟨u, ρ1, S1, e1, r1, s1, p1⟩ => ?_)
  obtain ⟨b, h1, c, ρ2, S2, e2, rfl, s2, p2⟩ := (p1.bind (rel := fun _ _ a b => a = b)).truth r1 s1
  refine ⟨c, by rw [G.hK]; exact h1, ?_⟩
  cases c with
  | true => exact p2.ok (r1.ext e2) s2
  | false => exact qb ρ2 σ H1 env S2 _ (re.ext (e1.trans e2)) s2 p2
theorem de_one {op : BoolOp} {a : Expr} {ma : Env → M Val} {pos : Pos} (ha : DE w W X a ma) : DE w W X (.BoolOp op [a] pos) ma := by
  obtain ⟨ta, pa, qa⟩ := ha.ex
  exact ⟨_, pe_one pa, qa⟩

/-! ### and, or in tests -/
structure DW (w : Wd) (W : WX) (X : Cx) (e : Expr) (m : Env → M Bool) : Prop where
  ex : ∃ t, PW X e t ∧ ∀ ρ σ H env S (Q : Bool → Hp → Prop), RepE w ρ H env σ → RepS w ρ H S → Post w W σ (fun _ _ a b => a = b) ρ H (m env S) Q → t σ H Q
theorem DW.dt {e : Expr} {m : Env → M Bool} (h : DW w W X e m) : DT w W X e m := by
  obtain ⟨t, pt, q⟩ := h.ex
  exact ⟨t, pt.pt, q⟩
theorem dw_and1 {a : Expr} {m : Env → M Bool} {pos : Pos} (h : DT w W X a m) : DW w W X (.BoolOp .And [a] pos) m := by
  obtain ⟨t, pt, q⟩ := h.ex
  exact ⟨t, pw_and1 pt, q⟩
theorem dw_or1 {a : Expr} {m : Env → M Bool} {pos : Pos} (h : DT w W X a m) : DW w W X (.BoolOp .Or [a] pos) m := by
  obtain ⟨t, pt, q⟩ := h.ex
  exact ⟨t, pw_or1 pt, q⟩
theorem dw_and {a b : Expr} {r : List Expr} {ma mb : Env → M Val} {pos : Pos} (ha : DT w W X a (fun env => ma env >>= truthM)) (hb : DW w W X (.BoolOp .And (b :: r) pos) (fun env => mb env >>= truthM)) :
    DW w W X (.BoolOp .And (a :: b :: r) pos) (fun env => (do let x ← ma env; let t ← truthM x; if t then mb env else pure x) >>= truthM) := by
  obtain ⟨ta, pa, qa⟩ := ha.ex
  obtain ⟨tb, pb, qb⟩ := hb.ex
  refine ⟨_, pw_and pa pb, fun ρ σ H env S Q re rs p => ?_⟩
  have e : ∀ S, ((do let x ← ma env; let t ← truthM x; if t then mb env else pure x) >>= truthM : M Bool) S = ((ma env >>= truthM) >>= fun t => if t = true then mb env >>= truthM else pure false) S := fun S => by
    rw [M.assoc, M.assoc, bind_app, bind_app]
    cases ma env S with
    | ok x S1 =>
      show ((truthM x >>= fun t => if t = true then mb env else pure x) >>= truthM) S1 = (truthM x >>= fun t => if t = true then mb env >>= truthM else pure false) S1
      rw [M.assoc, bind_app, bind_app]
      unfold truthM
      cases q : truth S1 x with
      | none => rfl
      | some c => cases c with
        | true => rfl
        | false =>
          show (match truth S1 x with | some b => Res.ok b S1 | none => .bad) = _
          rw [q]; rfl
    | exc x S1 => rfl
    | bad => rfl
  rw [e S] at p
  refine qa ρ σ H env S _ re rs (p.bind.imp fun c H1 ⟨d, ρ1, S1, e1, r1, s1, p1⟩ => ?_)
  subst r1
  cases d with
  | true => exact qb ρ1 σ H1 env S1 _ (re.ext e1) s1 p1
  | false => exact p1.ok rfl s1
theorem dw_or {a b : Expr} {r : List Expr} {ma mb : Env → M Val} {pos : Pos} (ha : DT w W X a (fun env => ma env >>= truthM)) (hb : DW w W X (.BoolOp .Or (b :: r) pos) (fun env => mb env >>= truthM)) :
    DW w W X (.BoolOp .Or (a :: b :: r) pos) (fun env => (do let x ← ma env; let t ← truthM x; if t then pure x else mb env) >>= truthM) := by
  obtain ⟨ta, pa, qa⟩ := ha.ex
  obtain ⟨tb, pb, qb⟩ := hb.ex
  refine ⟨_, pw_or pa pb, fun ρ σ H env S Q re rs p => ?_⟩
  have e : ∀ S, ((do let x ← ma env; let t ← truthM x; if t then pure x else mb env) >>= truthM : M Bool) S = ((ma env >>= truthM) >>= fun t => if t = true then pure true else mb env >>= truthM) S := fun S => by
    rw [M.assoc, M.assoc, bind_app, bind_app]
    cases ma env S with
    | ok x S1 =>
      show ((truthM x >>= fun t => if t = true then pure x else mb env) >>= truthM) S1 = (truthM x >>= fun t => if t = true then pure true else mb env >>= truthM) S1
      rw [M.assoc, bind_app, bind_app]
      unfold truthM
      cases q : truth S1 x with
      | none => rfl
      | some c => cases c with
        | true =>
          show (match truth S1 x with | some b => Res.ok b S1 | none => .bad) = _
          rw [q]; rfl
        | false => rfl
    | exc x S1 => rfl
    | bad => rfl
  rw [e S] at p
  refine qa ρ σ H env S _ re rs (p.bind.imp fun c H1 ⟨d, ρ1, S1, e1, r1, s1, p1⟩ => ?_)
  subst r1
  cases d with
  | true => exact p1.ok rfl s1
  | false => exact qb ρ1 σ H1 env S1 _ (re.ext e1) s1 p1

/-! ### a if t else b -/
theorem de_ife {c a b : Expr} {mc ma mb : Env → M Val} {pos : Pos} (hc : DT w W X c (fun env => mc env >>= truthM)) (ha : DE w W X a ma) (hb : DE w W X b mb) :
    DE w W X (.IfExp c a b pos) (fun env => do let x ← mc env; let t ← truthM x; if t then ma env else mb env) := by
  obtain ⟨tc, pc, qc⟩ := hc.ex
  obtain ⟨ta, pa, qa⟩ := ha.ex
  obtain ⟨tb, pb, qb⟩ := hb.ex
  refine ⟨_, pe_ifExp pc pa pb, fun ρ σ H env S Q re rs p => ?_⟩
  rw [← M.assoc] at p
  refine qc ρ σ H env S _ re rs (p.bind.imp fun x H1 ⟨u, ρ1, S1, e1, r1, s1, p1⟩ => ?_)
  subst r1
  cases u with
  | true => exact qa ρ1 σ H1 env S1 _ (re.ext e1) s1 p1
  | false => exact qb ρ1 σ H1 env S1 _ (re.ext e1) s1 p1
/-- .. as a test -/
def tIfT (c a b : TT) : TT := fun σ H Q => c σ H fun d H1 => if d = true then a σ H1 Q else b σ H1 Q
theorem pt_ifExp {c a b : Expr} {tc ta tb : TT} {pos : Pos} (hc : PT X c tc) (ha : PT X a ta) (hb : PT X b tb) : PT X (.IfExp c a b pos) (tIfT tc ta tb) := by
  refine ⟨fun pins s σ H Q I h => ?_⟩
  show wpAny _ _ (do if ← isTrue c X.env (eval c X.env) then isTrue a X.env (eval a X.env) else isTrue b X.env (eval b X.env)) _ _ s
  refine wpAny_bind (thn (hc.run pins s σ H _ I h) fun d s1 ⟨H1, I1, q1⟩ => ?_)
  cases d with
  | true => exact ha.run pins s1 σ H1 Q I1 q1
  | false => exact hb.run pins s1 σ H1 Q I1 q1
theorem dt_ife {c a b : Expr} {mc ma mb : Env → M Val} {pos : Pos} (hc : DT w W X c (fun env => mc env >>= truthM)) (ha : DT w W X a (fun env => ma env >>= truthM)) (hb : DT w W X b (fun env => mb env >>= truthM)) :
    DT w W X (.IfExp c a b pos) (fun env => (do let x ← mc env; let t ← truthM x; if t then ma env else mb env) >>= truthM) := by
  obtain ⟨tc, pc, qc⟩ := hc.ex
  obtain ⟨ta, pa, qa⟩ := ha.ex
  obtain ⟨tb, pb, qb⟩ := hb.ex
  refine ⟨_, pt_ifExp pc pa pb, fun ρ σ H env S Q re rs p => ?_⟩
  have e : ((do let x ← mc env; let t ← truthM x; if t then ma env else mb env) >>= truthM : M Bool) = ((mc env >>= truthM) >>= fun t => if t = true then ma env >>= truthM else mb env >>= truthM) := by
    rw [M.assoc, M.assoc]
    congr 1
    funext x
    rw [M.assoc]
    congr 1
    funext t
    cases t <;> rfl
  rw [e] at p
  refine qc ρ σ H env S _ re rs (p.bind.imp fun x H1 ⟨u, ρ1, S1, e1, r1, s1, p1⟩ => ?_)
  subst r1
  cases u with
  | true => exact qa ρ1 σ H1 env S1 _ (re.ext e1) s1 p1
  | false => exact qb ρ1 σ H1 env S1 _ (re.ext e1) s1 p1

/-! ### argument lists, displays -/
theorem star_cons {e : Expr} {es : List Expr} {env : PySem.Env} (h : ∀ x p, e ≠ .Starred x p) : starEach (e :: es) env = (false, eval e env) :: starEach es env := by
  cases e <;> first | rfl | exact absurd rfl (h _ _)
theorem da_nil : DA w W X [] (fun _ => pure []) := ⟨_, pa_nil, fun ρ σ H env S Q re rs p => p.ok (by simp [RepVs]) rs⟩
theorem da_cons {e : Expr} {es : List Expr} {m : Env → M Val} {ms : Env → M (List Val)} (h : ∀ x p, e ≠ .Starred x p) (ha : DE w W X e m) (hs : DA w W X es ms) :
    DA w W X (e :: es) (fun env => do let x ← m env; let xs ← ms env; pure (x :: xs)) := by
  obtain ⟨ta, pa, qa⟩ := ha.ex
  obtain ⟨tb, pb, qb⟩ := hs.ex
  refine ⟨_, pa_cons pa pb (star_cons h), fun ρ σ H env S Q re rs p => ?_⟩
  refine qa ρ σ H env S _ re rs (p.bind.imp fun x H1 ⟨u, ρ1, S1, e1, r1, s1, p1⟩ => ?_)
  refine qb ρ1 σ H1 env S1 _ (re.ext e1) s1 (p1.bind.imp fun y H2 ⟨v, ρ2, S2, e2, r2, s2, p2⟩ => ?_)
  exact p2.ok (by simp only [RepVs]; exact ⟨_, _, rfl, r1.ext e2, r2⟩) s2
theorem need_app (b : Bool) (S : Store) : need b S = if b then .ok () S else .bad := rfl
/-- a tuple of new: a tree -/
theorem rep_newtup {ρ : List Addr} {H : Hp} {S : Store} {p : Addr} {xs : List Val} {vs : List V} (rs : RepS w ρ H S) (h : H p = none) (r : RepVs w ρ H xs vs) : RepV w ρ (upd H p (.tup vs)) (.tup xs) (.ref p) := by
  simp only [RepV]
  exact ⟨p, vs, rfl, .inl ⟨rs.none_out h, .inl upd_same⟩, r.ext (Ext.new rs h)⟩
theorem de_tup {es : List Expr} {ms : Env → M (List Val)} {j : Nat} {pos : Pos} (hs : DA w W X es ms) : DE w W X (.Tuple es j pos) (fun env => do let xs ← ms env; need (decide (xs.length ≤ sizeMax)); pure (.tup xs)) := by
  obtain ⟨t, pt, q⟩ := hs.ex
  refine ⟨_, pe_tup pt, fun ρ σ H env S Q re rs p => ?_⟩
  refine q ρ σ H env S _ re rs (p.bind.imp fun vs H1 ⟨xs, ρ1, S1, e1, r1, s1, p1⟩ => ?_)
  rw [bind_app, need_app] at p1
  split at p1
  · rename_i hh
    split at hh
    · rename_i hz
      cases hh
      refine ⟨by rw [r1.length, ← size_eq]; exact of_decide_eq_true hz, fun p hp => ?_⟩
      exact p1 _ _ _ (Ext.new s1 hp) (rep_newtup s1 hp r1) (s1.new hp)
    · cases hh
  · rename_i hh
    split at hh <;> cases hh
  · exact p1.elim
/-- a list of new: the store's -/
theorem Post.alloc_lst {σ : L2.St} {ρ : List Addr} {H : Hp} {S : Store} {xs : List Val} {vs : List V} {Q : VK} (p : Post w W σ (RepV w) ρ H (alloc (.lst xs) S) Q) (rs : RepS w ρ H S) (r : RepVs w ρ H xs vs) :
    ∀ q, H q = none → Q (.ref q) (upd H q (.lst vs)) := fun q hq => by
  refine p _ _ _ (Ext.push rs hq) ?_ (rs.push hq ⟨vs, rfl, r.ext (Ext.push rs hq)⟩)
  simp only [RepV]
  exact ⟨q, rfl, by rw [← rs.len]; simp⟩
theorem de_lst {es : List Expr} {ms : Env → M (List Val)} {pos : Pos} (hs : DA w W X es ms) : DE w W X (.List es pos) (fun env => do let xs ← ms env; need (decide (xs.length ≤ sizeMax)); alloc (.lst xs)) := by
  obtain ⟨t, pt, q⟩ := hs.ex
  refine ⟨_, pe_lst pt, fun ρ σ H env S Q re rs p => ?_⟩
  refine q ρ σ H env S _ re rs (p.bind.imp fun vs H1 ⟨xs, ρ1, S1, e1, r1, s1, p1⟩ => ?_)
  rw [bind_app, need_app] at p1
  split at p1
  · rename_i hh
    split at hh
    · rename_i hz
      cases hh
      exact ⟨by rw [r1.length, ← size_eq]; exact of_decide_eq_true hz, p1.alloc_lst s1 r1⟩
    · cases hh
  · rename_i hh
    split at hh <;> cases hh
  · exact p1.elim
end
end Pd

/-! Pd, part 6: operators, comparisons, subscripts. -/
namespace Pd
open PySem PySem.Spec L2

section
variable {X : Cx}
theorem op_fdivA : OpR X (binaryOp .FloorDiv) (rI (fun _ j => j ≠ 0 ∧ j.natAbs.log2 < 9000) fun i j => .int (i.fdiv j)) := opI fun _ _ _ _ _ _ _ hc q => PyProof.Rows.floordiv_int hc.1 q (.inl (PyProof.noPylong_of_log2 hc.2))
theorem op_mulA : OpR X (binaryOp .Mult) (rI IntMulOk fun i j => .int (i * j)) := opI fun _ _ _ _ _ _ _ hc q => PyProof.Rows.mul_int q hc
theorem op_shlA : OpR X (binaryOp .LShift) (rI CPow fun i j => .int (i * 2 ^ j.toNat)) := op_shl
end
theorem mul_ok {a b : Int} (h : mulFits a b = true) : IntMulOk a b := by
  unfold mulFits intSmall at h
  simp only [Bool.or_eq_true, Bool.and_eq_true, decide_eq_true_eq] at h
  rcases h with (h | h) | h
  · exact (show CMul a b from .inl h).ok
  · exact (show CMul a b from .inr h).ok
  · exact CMulW.ok h
theorem pow_ok {a b : Int} (h : powFits a b = true) : CPow a b := by
  unfold powFits at h
  simp only [Bool.and_eq_true, decide_eq_true_eq] at h
  exact ⟨h.1.1, h.1.2, h.2⟩

section
variable {w : Wd} {W : WX} {σ : L2.St} {ρ : List Addr} {H : Hp} {S : Store}
theorem rep_int {v : Val} {i : Int} {x : V} (h : v = .int i) (r : RepV w ρ H v x) : x = .int i := by subst h; simpa only [RepV] using r
theorem rep_flat {xs : List Val} {vs : List V} (r : RepVs w ρ H xs vs) : ∀ n, RepVs w ρ H (List.replicate n xs).flatten (List.replicate n vs).flatten
  | 0 => by simp [RepVs]
  | n + 1 => by
    rw [List.replicate_succ, List.replicate_succ, List.flatten_cons, List.flatten_cons]
    exact r.append (rep_flat r n)
/-- the rules of a binary operator, all together -/
def rBin (K : PySem.W.Frag) : Bop → R2
  | .add => fun x y H Q => rI0 (fun i j => .int (i + j)) x y H Q ∨ (∃ i j, x = .str i ∧ y = .str j ∧ i.length + j.length ≤ sizeLine ∧ Q (.str (i ++ j)) H) ∨ rCatA K x y H Q ∨ rCat x y H Q
  | .sub => rI0 fun i j => .int (i - j)
  | .mul => fun x y H Q => rI IntMulOk (fun i j => .int (i * j)) x y H Q ∨ rRep x y H Q
  | .fdiv => rI (fun _ j => j ≠ 0 ∧ j.natAbs.log2 < 9000) fun i j => .int (i.fdiv j)
  | .mod => rI (fun _ j => j ≠ 0) fun i j => .int (i.fmod j)
  | .pow => rI CPow fun i j => .int (i ^ j.toNat)
  | .shl => rI CPow fun i j => .int (i * 2 ^ j.toNat)
theorem op_bin {X : Cx} {op : Bop} {o : Operator} (h : opB op o = true) : OpR X (binaryOp o) (rBin X.K op) := by
  cases op <;> cases o <;> first | cases h | skip
  · exact op_add.or (op_add_str.or (op_catA.or op_cat))
  · exact op_sub
  · exact op_mulA.or op_rep
  · exact op_fdivA
  · exact op_modN
  · exact op_pow
  · exact op_shlA
theorem bin_ok {op : Bop} {x y : V} {u v : Val} {Q : VK} (ru : RepV w ρ H u x) (rv : RepV w ρ H v y) (rs : RepS w ρ H S) (p : Post w W σ (RepV w) ρ H (binV op u v S) Q) : rBin w.K op x y H Q := by
  cases op with
  | add =>
    change Post w W σ (RepV w) ρ H (addV u v S) Q at p
    unfold addV at p
    split at p
    · simp only [RepV] at ru rv
      exact .inl ⟨_, _, ru, rv, p.ok (by simp [RepV]) rs⟩
    · simp only [RepV] at ru rv
      split at p
      · rename_i hz
        exact .inr (.inl ⟨_, _, ru, rv, by rw [← size_eq]; exact hz, p.ok (by simp [RepV]) rs⟩)
      · exact p.elim
    · rename_i xs ys
      simp only [RepV] at ru rv
      obtain ⟨a, vs, rfl, a1, a2⟩ := ru
      obtain ⟨b, us, rfl, b1, b2⟩ := rv
      split at p
      · rename_i hz
        refine .inr (.inr (.inl ⟨a, b, vs, us, rfl, rfl, a1.sq, b1.sq, by rw [a2.length, b2.length, ← size_eq]; exact hz, fun e => ?_, fun e e' => ?_, fun e e' q hq => ?_⟩))
        · subst e
          have : xs = [] := List.length_eq_zero_iff.mp a2.length.symm
          subst this
          exact p.ok (by simp only [RepV, List.nil_append]; exact ⟨b, us, rfl, b1, b2⟩) rs
        · subst e'
          have : ys = [] := List.length_eq_zero_iff.mp b2.length.symm
          subst this
          exact p.ok (by simp only [RepV, List.append_nil]; exact ⟨a, vs, rfl, a1, a2⟩) rs
        · exact p _ _ _ (Ext.new rs hq) (rep_newtup rs hq (a2.append b2)) (rs.new hq)
      · exact p.elim
    · rename_i i j
      simp only [RepV] at ru rv
      obtain ⟨a, rfl, a1⟩ := ru
      obtain ⟨b, rfl, b1⟩ := rv
      unfold catL at p
      split at p
      · rename_i xs ys e1 e2
        obtain ⟨vs, h1, h2⟩ := lst_at rs a1 e1
        obtain ⟨us, h3, h4⟩ := lst_at rs b1 e2
        split at p
        · rename_i hz
          exact .inr (.inr (.inr ⟨a, b, vs, us, rfl, rfl, h1, h3, by rw [h2.length, h4.length, ← size_eq]; exact hz, p.alloc_lst rs (h2.append h4)⟩))
        · exact p.elim
      · exact p.elim
    · exact p.elim
  | sub =>
    change Post w W σ (RepV w) ρ H (subV u v S) Q at p
    unfold subV at p
    split at p
    · simp only [RepV] at ru rv
      exact ⟨_, _, ru, rv, p.ok (by simp [RepV]) rs⟩
    · exact p.elim
  | mul =>
    change Post w W σ (RepV w) ρ H (mulV u v S) Q at p
    unfold mulV at p
    split at p
    · simp only [RepV] at ru rv
      split at p
      · rename_i hz
        exact .inl ⟨_, _, ru, rv, mul_ok hz, p.ok (by simp [RepV]) rs⟩
      · exact p.elim
    · rename_i l k
      simp only [RepV] at ru rv
      obtain ⟨a, rfl, a1⟩ := ru
      subst rv
      unfold repL at p
      split at p
      · rename_i xs e1
        obtain ⟨vs, h1, h2⟩ := lst_at rs a1 e1
        split at p
        · rename_i hz
          simp only [Bool.and_eq_true, decide_eq_true_eq] at hz
          exact .inr ⟨a, k, vs, rfl, rfl, h1, hz.1.1, hz.1.2, by rw [h2.length, ← size_eq]; exact hz.2, p.alloc_lst rs (rep_flat h2 _)⟩
        · exact p.elim
      · exact p.elim
    · exact p.elim
  | fdiv =>
    change Post w W σ (RepV w) ρ H (fdivV u v S) Q at p
    unfold fdivV at p
    split at p
    · simp only [RepV] at ru rv
      split at p
      · rename_i hz
        unfold divFits at hz
        simp only [Bool.and_eq_true, decide_eq_true_eq] at hz
        exact ⟨_, _, ru, rv, hz, p.ok (by simp [RepV]) rs⟩
      · exact p.elim
    · exact p.elim
  | mod =>
    change Post w W σ (RepV w) ρ H (modV u v S) Q at p
    unfold modV at p
    split at p
    · simp only [RepV] at ru rv
      split at p
      · rename_i hz
        exact ⟨_, _, ru, rv, hz, p.ok (by simp [RepV]) rs⟩
      · exact p.elim
    · exact p.elim
  | pow =>
    change Post w W σ (RepV w) ρ H (powV u v S) Q at p
    unfold powV at p
    split at p
    · simp only [RepV] at ru rv
      split at p
      · rename_i hz
        exact ⟨_, _, ru, rv, pow_ok hz, p.ok (by simp [RepV]) rs⟩
      · exact p.elim
    · exact p.elim
  | shl =>
    change Post w W σ (RepV w) ρ H (shlV u v S) Q at p
    unfold shlV at p
    split at p
    · simp only [RepV] at ru rv
      split at p
      · rename_i hz
        exact ⟨_, _, ru, rv, pow_ok hz, p.ok (by simp [RepV]) rs⟩
      · exact p.elim
    · exact p.elim

/-! ### equality of data -/
theorem dpAll_of {S : Store} (n : Nat) (ih : ∀ (v : Val) (x : V) (d : PyData), RepV w ρ H v x → dat S n v = some d → Dp w.K H x d) :
    ∀ (xs : List Val) (vs : List V) (ds : List PyData), RepVs w ρ H xs vs → optMap (dat S n) xs = some ds → DpAll w.K H vs ds
  | [], vs, ds, r, h => by
    simp only [RepVs] at r
    subst r
    have e := Option.some.inj h
    subst e
    exact .nil
  | x :: xs, vs, ds, r, h => by
    simp only [RepVs] at r
    obtain ⟨v, us, rfl, r1, r2⟩ := r
    unfold optMap at h
    split at h
    · rename_i d ds' e1 e2
      have e := Option.some.inj h
      subst e
      exact .cons (ih x v d r1 e1) (dpAll_of n ih xs us ds' r2 e2)
    · cases h
theorem dp_of (rs : RepS w ρ H S) : ∀ (n : Nat) (v : Val) (x : V) (d : PyData), RepV w ρ H v x → dat S n v = some d → Dp w.K H x d
  | n, .non, x, d, r, h => by
    simp only [RepV] at r; subst r
    cases n <;> (have e := Option.some.inj h; subst e; exact .non)
  | n, .bl b, x, d, r, h => by
    simp only [RepV] at r; subst r
    cases n <;> (have e := Option.some.inj h; subst e; exact .bl b)
  | n, .int b, x, d, r, h => by
    simp only [RepV] at r; subst r
    cases n <;> (have e := Option.some.inj h; subst e; exact .int b)
  | n, .str b, x, d, r, h => by
    simp only [RepV] at r; subst r
    cases n <;> (have e := Option.some.inj h; subst e; exact .str b)
  | 0, .tup xs, x, d, r, h => nomatch h
  | n + 1, .tup xs, x, d, r, h => by
    simp only [RepV] at r
    obtain ⟨a, vs, rfl, r1, r2⟩ := r
    have h' : (optMap (dat S n) xs).map PyData.tuple = some d := h
    cases q : optMap (dat S n) xs with
    | none => rw [q] at h'; cases h'
    | some ds =>
      rw [q] at h'
      have e := Option.some.inj h'
      subst e
      exact .tup r1.sq (dpAll_of n (dp_of rs n) xs vs ds r2 q)
  | n, .ins c fs, x, d, r, h => by cases n <;> cases h
  | n, .scr ns, x, d, r, h => by cases n <;> cases h
  | 0, .ref i, x, d, r, h => nomatch h
  | n + 1, .ref i, x, d, r, h => by
    simp only [RepV] at r
    obtain ⟨a, rfl, r1⟩ := r
    have h' : (match S[i]? with | some (.lst xs) => (optMap (dat S n) xs).map PyData.list | _ => none) = some d := h
    split at h'
    · rename_i xs e1
      obtain ⟨vs, h1, h2⟩ := lst_at rs r1 e1
      cases q : optMap (dat S n) xs with
      | none => rw [q] at h'; cases h'
      | some ds =>
        rw [q] at h'
        have e := Option.some.inj h'
        subst e
        exact .lst (SqL.of h1) (dpAll_of n (dp_of rs n) xs vs ds h2 q)
    · cases h'

def rEqA (K : PySem.W.Frag) : R2 := fun x y H Q => rEq x y H Q ∨ rEqD K x y H Q
def rNeA (K : PySem.W.Frag) : R2 := fun x y H Q => rNe x y H Q ∨ rNeD K x y H Q
theorem eq_ok {x y : V} {u v : Val} {c : Bool} (ru : RepV w ρ H u x) (rv : RepV w ρ H v y) (rs : RepS w ρ H S) (h : eqV S u v = some c) :
    (scal x y = true ∧ decide (x = y) = c) ∨ ∃ d e, Dp w.K H x d ∧ Dp w.K H y e ∧ SeqAt.shaped d = true ∧ SeqAt.shaped e = true ∧ PyData.eqv d e = c := by
  unfold eqV at h
  split at h
  · simp only [RepV] at ru rv; subst ru rv
    have e := Option.some.inj h
    refine .inl ⟨rfl, ?_⟩
    rw [← e]
    simp
  · simp only [RepV] at ru rv; subst ru rv
    have e := Option.some.inj h
    refine .inl ⟨rfl, ?_⟩
    rw [← e]
    simp
  · simp only [RepV] at ru rv; subst ru rv
    have e := Option.some.inj h
    refine .inl ⟨rfl, ?_⟩
    rw [← e]
    simp
  · simp only [RepV] at ru rv; subst ru rv
    have e := Option.some.inj h
    refine .inl ⟨rfl, ?_⟩
    rw [← e]
    simp
  · split at h
    · rename_i d e e1 e2
      split at h
      · rename_i hz
        simp only [Bool.and_eq_true] at hz
        exact .inr ⟨d, e, dp_of rs _ _ _ _ ru e1, dp_of rs _ _ _ _ rv e2, hz.1, hz.2, Option.some.inj h⟩
      · cases h
    · cases h

theorem seq_read (rs : RepS w ρ H S) {v : Val} {x : V} {l : List Val} (r : RepV w ρ H v x) (h : seqOf S v = some l) : ∃ a vs, x = .ref a ∧ (SqL w.K H a vs ∨ SqT w.K H a vs) ∧ RepVs w ρ H l vs := by
  unfold seqOf at h
  split at h
  · rename_i xs
    simp only [RepV] at r
    obtain ⟨a, vs, rfl, a1, a2⟩ := r
    have e := Option.some.inj h
    subst e
    exact ⟨a, vs, rfl, .inr a1.sq, a2⟩
  · rename_i ns
    simp only [RepV] at r
    obtain ⟨a, rfl, a1⟩ := r
    have e := Option.some.inj h
    subst e
    exact ⟨a, _, rfl, .inl a1.sq, RepVs.ints ns⟩
  · simp only [RepV] at r
    obtain ⟨a, rfl, a1⟩ := r
    split at h
    · rename_i xs e
      have e' := Option.some.inj h
      subst e'
      obtain ⟨vs, h1, h2⟩ := lst_at rs a1 e
      exact ⟨a, vs, rfl, .inl (SqL.of h1), h2⟩
    · cases h
  · cases h
theorem key_kV {v : Val} {q : DKey} {y : V} (h : keyOf v = some q) (r : RepV w ρ H v y) : y = kV q := by
  unfold keyOf at h
  split at h
  · have e := Option.some.inj h
    subst e
    simp only [RepV] at r
    exact r
  · have e := Option.some.inj h
    subst e
    simp only [RepV] at r
    exact r
  · cases h
theorem valV_rep {κ : Type} [DecidableEq κ] {w : Wd} {ρ : List Addr} {H : Hp} : ∀ {kvs : List (κ × Val)} {vs : List (κ × V)} {k : κ} {v : Val}, RepKV w ρ H kvs vs → lookV kvs k = some v → ∃ x, valV vs k = some x ∧ RepV w ρ H v x
  | [], _, _, _, _, h => nomatch h
  | (k', u) :: r, _, k, v, h, e => by
    simp only [RepKV] at h
    obtain ⟨x, vr, rfl, h1, h2⟩ := h
    unfold lookV at e
    show ∃ y, valV ((k', x) :: vr) k = some y ∧ _
    unfold valV
    by_cases hk : k' = k
    · rw [if_pos hk] at e
      have e' := Option.some.inj e
      subst e'
      exact ⟨x, by simp [hk], h1⟩
    · rw [if_neg hk] at e
      obtain ⟨y, q1, q2⟩ := valV_rep h2 e
      unfold valV at q1
      exact ⟨y, by simpa [hk] using q1, q2⟩

theorem valV_none {κ : Type} [DecidableEq κ] {w : Wd} {ρ : List Addr} {H : Hp} : ∀ {kvs : List (κ × Val)} {vs : List (κ × V)} {k : κ}, RepKV w ρ H kvs vs → lookV kvs k = none → valV vs k = none
  | [], _, _, h, _ => by simp only [RepKV] at h; subst h; rfl
  | (k', u) :: r, _, k, h, e => by
    simp only [RepKV] at h
    obtain ⟨x, vr, rfl, h1, h2⟩ := h
    unfold lookV at e
    by_cases hk : k' = k
    · rw [if_pos hk] at e; cases e
    · rw [if_neg hk] at e
      rw [valV_neg hk]
      exact valV_none h2 e
/-- a dict asked for a key -/
theorem look_rep {kvs : List (DKey × Val)} {vs : List (DKey × V)} {q : DKey} (h : RepKV w ρ H kvs vs) : (lookV kvs q).isSome = (valV vs q).isSome ∧ ∀ {d : Val} {x : V}, RepV w ρ H d x → RepV w ρ H ((lookV kvs q).getD d) ((valV vs q).getD x) := by
  cases e : lookV kvs q with
  | none =>
    rw [valV_none h e]
    exact ⟨rfl, fun r => r⟩
  | some v =>
    obtain ⟨y, e1, e2⟩ := valV_rep h e
    rw [e1]
    exact ⟨rfl, fun _ => e2⟩
theorem flat_rep {x : Val} {v : V} (h : flatV x = true) (r : RepV w ρ H x v) : L2.flatV v = true := by
  cases x <;> simp [flatV] at h <;> simp only [RepV] at r <;> subst r <;> rfl
theorem flats_rep : ∀ {xs : List Val} {vs : List V}, xs.all flatV = true → RepVs w ρ H xs vs → vs.all L2.flatV = true
  | [], _, _, r => by simp only [RepVs] at r; subst r; rfl
  | x :: xs, _, h, r => by
    simp only [RepVs] at r
    obtain ⟨v, l, rfl, r1, r2⟩ := r
    simp only [List.all_cons, Bool.and_eq_true] at h ⊢
    exact ⟨flat_rep h.1 r1, flats_rep h.2 r2⟩
theorem flatEq_rep {x y : Val} {u v : V} (h1 : flatV x = true) (h2 : flatV y = true) (r1 : RepV w ρ H x u) (r2 : RepV w ρ H y v) : flatEq x y = L2.eqV u v := by
  cases x <;> simp [flatV] at h1 <;> cases y <;> simp [flatV] at h2 <;> simp only [RepV] at r1 r2 <;> subst r1 <;> subst r2 <;> rfl
theorem in_rep {x : Val} {u : V} (h : flatV x = true) (r : RepV w ρ H x u) : ∀ {xs : List Val} {vs : List V}, xs.all flatV = true → RepVs w ρ H xs vs → (xs.any fun z => flatEq z x) = L2.inV u vs
  | [], _, _, r => by simp only [RepVs] at r; subst r; rfl
  | y :: xs, _, h', r' => by
    simp only [RepVs] at r'
    obtain ⟨v, l, rfl, r1, r2⟩ := r'
    simp only [List.all_cons, Bool.and_eq_true] at h'
    have e := in_rep h r h'.2 r2
    unfold L2.inV at e ⊢
    simp only [List.any_cons, e, flatEq_rep h'.1 h r1 r]
def rInDc (neg : Bool) : R2 := fun x y H Q => ∃ a o, y = .ref a ∧ DGet H a x o ∧ Q (.bl (if neg then !o.isSome else o.isSome)) H
def rInSg (neg : Bool) : R2 := fun x y H Q => ∃ (c : Nat) (z : Str), x = .str ⟨#[c]⟩ ∧ y = .str z ∧ Q (.bl (if neg then !decide (c ∈ z.cps.toList) else decide (c ∈ z.cps.toList))) H
def rInA (K : PySem.W.Frag) (neg : Bool) : R2 := fun x y H Q => rIn K neg x y H Q ∨ rInDc neg x y H Q ∨ rInSg neg x y H Q
theorem op_inA {X : Cx} (hu : X.A.units + 1 < cLine) : OpR X (compareOp .In) (rInA X.K false) := by
  intro pins s σ H x y v u Q I rx ry h
  rcases h with h | ⟨a, o, rfl, g, q⟩ | h
  · exact op_in_seq pins s σ H x y v u Q I rx ry h
  · cases ry
    exact d_in hu I g rx fun s' I' => ⟨.bl o.isSome, H, I', rfl, q⟩
  · exact op_in_sign pins s σ H x y v u Q I rx ry h
theorem op_notInA {X : Cx} (hu : X.A.units + 1 < cLine) : OpR X (compareOp .NotIn) (rInA X.K true) := by
  intro pins s σ H x y v u Q I rx ry h
  rcases h with h | ⟨a, o, rfl, g, q⟩ | h
  · exact op_notIn_seq pins s σ H x y v u Q I rx ry h
  · cases ry
    exact d_notIn hu I g rx fun s' I' => ⟨.bl (!o.isSome), H, I', rfl, q⟩
  · exact op_notIn_sign pins s σ H x y v u Q I rx ry h
theorem in_ok {neg : Bool} {x y : V} {u v : Val} {Q : VK} {c : Bool} (ru : RepV w ρ H u x) (rv : RepV w ρ H v y) (rs : RepS w ρ H S) (h : inV S u v = some c) (q : Q (.bl (if neg then !c else c)) H) : rInA w.K neg x y H Q := by
  unfold inV at h
  split at h
  · rename_i l e
    split at h
    · rename_i hf
      simp only [Bool.and_eq_true] at hf
      obtain ⟨a, vs, rfl, h1, h2⟩ := seq_read rs rv e
      have e := Option.some.inj h
      rw [in_rep hf.1 ru hf.2 h2] at e
      exact .inl ⟨a, vs, rfl, h1, flat_rep hf.1 ru, flats_rep hf.2 h2, by rw [e]; exact q⟩
    · cases h
  · split at h
    · rename_i d
      simp only [RepV] at rv
      obtain ⟨a, rfl, ha⟩ := rv
      split at h
      · rename_i kvs e
        obtain ⟨vs, h1, h2⟩ := dct_at rs ha e
        split at h
        · rename_i k hk
          have ek := key_kV hk ru
          subst ek
          have e := Option.some.inj h
          refine .inr (.inl ⟨a, _, rfl, DGet.k h1, ?_⟩)
          rw [← (look_rep h2).1, e]
          exact q
        · cases h
      · cases h
    · rename_i z
      split at h
      · rename_i t
        split at h
        · rename_i hz
          simp only [RepV] at ru rv
          have e := Option.some.inj h
          have et : t = ⟨#[t.cps.getD 0 0]⟩ := by
            obtain ⟨cps⟩ := t
            obtain ⟨l⟩ := cps
            rcases l with _ | ⟨c, _ | ⟨_, _⟩⟩
            · simp at hz
            · rfl
            · simp at hz
          refine .inr (.inr ⟨t.cps.getD 0 0, _, by rw [← et]; exact ru, rv, ?_⟩)
          rw [e]
          exact q
        · cases h
      · cases h
    · cases h

def rCmp (K : PySem.W.Frag) : Cop → R2
  | .eq => rEqA K
  | .ne => rNeA K
  | .lt => rI0 fun i j => .bl (decide (i < j))
  | .le => rI0 fun i j => .bl (decide (i ≤ j))
  | .gt => rI0 fun i j => .bl (decide (j < i))
  | .ge => rI0 fun i j => .bl (decide (j ≤ i))
  | .isN => fun x y H Q => y = .non ∧ Q (.bl (decide (x = .non))) H
  | .notN => fun x y H Q => y = .non ∧ Q (.bl (!decide (x = .non))) H
  | .isIn => rInA K false
  | .notIn => rInA K true
theorem op_cmp {X : Cx} {op : Cop} {o : CmpOp} (h : copB op o = true) (hu : X.A.units + 64 < cLine) : OpR X (compareOp o) (rCmp X.K op) := by
  cases op <;> cases o <;> first | cases h | skip
  · exact op_eq.or (op_eqD hu)
  · exact op_ne.or (op_neD hu)
  · exact op_lt
  · exact op_le
  · exact op_gt
  · exact op_ge
  · exact op_isN
  · exact op_notN
  · exact op_inA (by omega)
  · exact op_notInA (by omega)
theorem rep_non {v : Val} {x : V} (r : RepV w ρ H v x) (h : x = .non) : v = .non := by
  subst h
  cases v <;> simp only [RepV] at r <;> first | rfl | (obtain ⟨_, _, e, _⟩ := r; cases e; done) | (obtain ⟨_, e, _⟩ := r; cases e; done) | (obtain ⟨_, _, _, _, _, e, _⟩ := r; cases e; done) | cases r
theorem cmp_ok {op : Cop} {x y : V} {u v : Val} {Q : VK} (ru : RepV w ρ H u x) (rv : RepV w ρ H v y) (rs : RepS w ρ H S) (p : Post w W σ (RepV w) ρ H (cmpV op u v S) Q) : rCmp w.K op x y H Q := by
  have key : ∀ {c : Bool}, Post w W σ (RepV w) ρ H (.ok (.bl c) S) Q → Q (.bl c) H := fun p => p.ok (by simp [RepV]) rs
  unfold cmpV at p
  split at p
  · split at p
    · rename_i c e
      rcases eq_ok ru rv rs e with ⟨h1, h2⟩ | ⟨d, e, h1, h2, h3, h4, h5⟩
      · exact .inl ⟨h1, by rw [h2]; exact key p⟩
      · exact .inr ⟨d, e, h1, h2, h3, h4, by rw [h5]; exact key p⟩
    · exact p.elim
  · split at p
    · rename_i c e
      rcases eq_ok ru rv rs e with ⟨h1, h2⟩ | ⟨d, e, h1, h2, h3, h4, h5⟩
      · exact .inl ⟨h1, by rw [h2]; exact key p⟩
      · exact .inr ⟨d, e, h1, h2, h3, h4, by rw [h5]; exact key p⟩
    · exact p.elim
  · split at p
    · simp only [RepV] at ru rv; exact ⟨_, _, ru, rv, key p⟩
    · exact p.elim
  · split at p
    · simp only [RepV] at ru rv; exact ⟨_, _, ru, rv, key p⟩
    · exact p.elim
  · split at p
    · simp only [RepV] at ru rv; exact ⟨_, _, ru, rv, key p⟩
    · exact p.elim
  · split at p
    · simp only [RepV] at ru rv; exact ⟨_, _, ru, rv, key p⟩
    · exact p.elim
  · split at p
    · simp only [RepV] at ru rv
      refine ⟨rv, ?_⟩
      rw [decide_eq_true ru]; exact key p
    · rename_i hn
      simp only [RepV] at rv
      refine ⟨rv, ?_⟩
      rw [decide_eq_false (fun e => hn (rep_non ru e))]; exact key p
    · exact p.elim
  · split at p
    · simp only [RepV] at ru rv
      refine ⟨rv, ?_⟩
      rw [decide_eq_true ru]; exact key p
    · rename_i hn
      simp only [RepV] at rv
      refine ⟨rv, ?_⟩
      rw [decide_eq_false (fun e => hn (rep_non ru e))]; exact key p
    · exact p.elim
  · split at p
    · rename_i c e
      exact in_ok ru rv rs e (key p)
    · exact p.elim
  · split at p
    · rename_i c e
      exact in_ok ru rv rs e (key p)
    · exact p.elim
theorem cmp_bool {op : Cop} {u v z : Val} {S' : Store} (h : cmpV op u v S = .ok z S') : ∃ c, z = .bl c := by
  unfold cmpV at h
  split at h <;> (try split at h) <;> first | (injection h with h1 h2; exact ⟨_, h1.symm⟩) | cases h
end
end Pd

/-! Pd: a list or tuple from behind. -/
namespace Pd
open PySem PySem.Spec L2

section
variable {prog : Program} {w : World} {A : Around} {E : Value → Shared → Prop} {s : Shared}
/-- the fields of [::-1], applied -/
theorem back_applied {sl : Addr} {vs : Value} {n : Nat} {Q : Int × Int × Nat → Shared → Prop} (hs : s.heap.IsSliceOf sl .none .none vs) (ps : IsPart vs (some (-1))) (h : Q ((n : Int) - 1, -1, n) s) :
    wpAny (model prog w) A (Builtin.Slice.sliceApplied (.ref sl) (pure (n : Int))) Q E s := by
  obtain ⟨o, ho, _, hd⟩ := id hs
  have hp : Builtin.Slice.slicePlaces ((n : Int) - 1) (-1) (-1) = n := by
    unfold Builtin.Slice.slicePlaces
    rw [if_neg (by decide)]
    by_cases c : (n : Int) - 1 > -1
    · rw [if_pos c]
      have e : -(-1 : Int) = 1 := by decide
      rw [e, Int.ediv_one]
      omega
    · rw [if_neg c]
      omega
  unfold Builtin.Slice.sliceApplied Builtin.Slice.sliceFields
  have r1 : wpAny (model prog w) A (Builtin.Slice.slicePartIndex vs) (fun c s' => c = some (-1) ∧ s' = s) E s := HT.slicePart_ ps ⟨rfl, rfl⟩
  have r2 : wpAny (model prog w) A (Builtin.Slice.slicePartIndex .none) (fun c s' => c = none ∧ s' = s) E s := HT.slicePart_ .none ⟨rfl, rfl⟩
  refine wpAny_bind (wpAny_bind (wpAny_field ho hd (x := .none) rfl ?_))
  refine wpAny_bind (wpAny_field ho hd (x := .none) rfl ?_)
  refine wpAny_bind (wpAny_field ho hd (x := vs) rfl (wpAny_pure ?_))
  refine wpAny_bind (thn r1 fun c s1 hc => ?_)
  obtain ⟨rfl, rfl⟩ := hc
  show wpAny _ _ (if ((-1 : Int) == 0) = true then _ else _) _ _ _
  rw [if_neg (by decide)]
  refine wpAny_bind (thn r2 fun c s1 hc => ?_)
  obtain ⟨rfl, rfl⟩ := hc
  refine wpAny_bind (thn r2 fun c s1 hc => ?_)
  obtain ⟨rfl, rfl⟩ := hc
  refine wpAny_bind (wpAny_pure ?_)
  show wpAny _ _ (pure ((n : Int) - 1, (-1 : Int), Builtin.Slice.slicePlaces ((n : Int) - 1) (-1) (-1))) _ _ _
  rw [hp]
  exact wpAny_pure h
theorem back_pick (xs : Array Value) : (List.range xs.size).filterMap (fun (k : Nat) => xs[(((xs.size : Int) - 1) + (k : Int) * -1).toNat]?) = xs.toList.reverse := by
  have e : (fun (k : Nat) => xs[(((xs.size : Int) - 1) + (k : Int) * -1).toNat]?) = fun (k : Nat) => xs[(((xs.size : Int) - 1) - (k : Int)).toNat]? := by
    funext k
    congr 2
    omega
  rw [e]
  apply List.ext_getElem?
  intro i
  have key : ∀ n, n ≤ xs.size → ((List.range n).filterMap (fun (k : Nat) => xs[(((xs.size : Int) - 1) - (k : Int)).toNat]?)) = (List.range n).map fun k => xs.toList.reverse.getD k .none := by
    intro n
    induction n with
    | zero => intro _; rfl
    | succ n ih =>
      intro hn
      rw [List.range_succ, List.filterMap_append, List.map_append, ih (by omega)]
      congr 1
      have h1 : (((xs.size : Int) - 1) - (n : Int)).toNat = xs.size - 1 - n := by omega
      have h2 : xs[xs.size - 1 - n]? = some (xs.toList.reverse.getD n .none) := by
        rw [List.getD_eq_getElem?_getD, List.getElem?_reverse (by rw [Array.length_toList]; omega), Array.length_toList, Array.getElem?_toList, Array.getElem?_eq_getElem (by omega)]
        rfl
      simp only [List.filterMap_cons, h1, h2, List.filterMap_nil, List.map_cons, List.map_nil]
  rw [key xs.size (Nat.le_refl _)]
  congr 1
  apply List.ext_getElem
  · simp
  · intro j h1 h2
    simp [List.getD_eq_getElem?_getD, List.getElem?_eq_getElem h2]
theorem getItem_back {t sl : Addr} {items : Array Value} {vs : Value} {Q : Value → Shared → Prop} (ht : PyProof.Rows.IsTup s.heap t items) (hs : s.heap.IsSliceOf sl .none .none vs) (ps : IsPart vs (some (-1)))
    (h : Q (.ref s.heap.objs.size) { s with heap := s.heap.push { cls := .type "tuple", data := .seq items.toList.reverse.toArray } }) (hz : items.size ≤ sizeLine) : wpAny (model prog w) A (getItem (.ref t) (.ref sl)) Q E s := by
  obtain ⟨os, hos, hcs, _⟩ := id hs
  have hT : s.TypeIs (.ref sl) "slice" := ⟨os, hos, hcs⟩
  have hfit : sizeOk (.seq items.toList.reverse.toArray) := by
    show items.toList.reverse.toArray.size ≤ sizeLine
    simpa using hz
  unfold getItem
  try with_reducible refine wpAny_holding ?_
  first | refine wpAny_bind (wpAny_pure ?_) | skip
  refine wpAny_bind (wpAny_sequenceKey ht.typeIs (by decide) ?_)
  refine wpAny_bind (wpAny_callSpecial?_slot (name := Str.ofString "__getitem__") ht.typeIs PyProof.Rows.slot_tuple_getitem (wpAny_call_entry PyProof.Rows.slot_tuple_getitem ht.typeIs PyProof.Rows.entry_tuple_getitem ?_ (PyProof.Rows.args_tuple_getitem _ _)))
  show wpAny _ _ (Builtin.Tuple.tupleItemsOf (.ref t) >>= _) _ _ s
  refine wpAny_bind (PyProof.Rows.tupleItemsOf_ ht ?_)
  refine wpAny_bind (wpAny_typeOf hT ?_)
  rw [if_pos (by decide)]
  refine wpAny_bind (back_applied hs ps ?_)
  show wpAny _ _ (if (((items.size : Int) - 1) == 0 && (-1 : Int) == 1 && items.size == items.size) = true then _ else _) _ _ s
  have hno : ¬ ((((items.size : Int) - 1) == 0 && (-1 : Int) == 1 && items.size == items.size) = true) := by
    rw [show ((-1 : Int) == 1) = false by decide, Bool.and_false, Bool.false_and]
    exact Bool.false_ne_true
  rw [if_neg hno, back_pick]
  first
    | exact wpAny_bind (m := Builtin.Tuple.tupleExact _) (wpAny_newObj_type (wpAny_pure ⟨_, rfl, wpAny_pure h⟩) hfit)
    | exact wpAny_bind (m := Builtin.Tuple.tupleExact _) (wpAny_newObj_type (wpAny_bind (wpAny_pure (wpAny_pure ⟨_, rfl, wpAny_pure h⟩))) hfit)
    | exact wpAny_bind (wpAny_bind (m := Builtin.Tuple.tupleExact _) (wpAny_newObj_type (wpAny_pure (wpAny_pure ⟨_, rfl, wpAny_pure h⟩)) hfit))
    | exact wpAny_bind (wpAny_bind (m := Builtin.Tuple.tupleExact _) (wpAny_newObj_type (wpAny_pure ⟨_, rfl, wpAny_pure h⟩) hfit))
end

/-- xs[::-1], xs a list or a tuple -/
def tBack (K : PySem.W.Frag) (te : TE) : TE := fun σ H Q => te σ H fun x H1 => ∃ a xs, x = .ref a ∧ ((SqL K H1 a xs ∧ ∀ p, H1 p = none → Q (.ref p) (upd H1 p (.lst xs.reverse))) ∨ (SqT K H1 a xs ∧ ∀ p, H1 p = none → Q (.ref p) (upd H1 p (.tup xs.reverse))))
theorem pe_back {X : Cx} {e : Expr} {te : TE} {k : Nat} {p1 p2 p3 pos : Pos} (he : PE X e te) : PE X (.Subscript e (.Slice none none (some (.UnaryOp .USub (.Constant (.int 1) k p1) p2)) p3) pos) (tBack X.K te) := by
  refine ⟨fun pins s σ H Q I h => PyProof.Rows.Subscript_ (thn (he.run pins s σ H _ I h) fun v s1 hq => ?_)⟩
  obtain ⟨x, H1, I1, r1, a, xs, rfl, q⟩ := hq
  cases r1
  have neg1 : PO X (some (.UnaryOp .USub (.Constant (.int 1) k p1) p2)) (tPart (tUn (rU fun i => .int (-i)) (tC (.int 1)))) := po_some (pe_un un_neg pe_int)
  refine wpAny_Slice (thn (po_none.run pins s1 σ H1 (fun o H2 => o = none ∧ H2 = H1) I1 ⟨rfl, rfl⟩) fun vl s2 g2 => ?_)
  obtain ⟨o2, K2, I2, pl, e2, f2⟩ := g2
  rw [f2] at I2
  subst e2
  refine thn (po_none.run pins s2 σ H1 (fun o H2 => o = none ∧ H2 = H1) I2 ⟨rfl, rfl⟩) fun vu s3 g3 => ?_
  obtain ⟨o3, K3, I3, pu, e3, f3⟩ := g3
  rw [f3] at I3
  subst e3
  refine thn (neg1.run pins s3 σ H1 (fun o H2 => o = some (-1) ∧ H2 = H1) I3 ⟨1, rfl, -1, rfl, rfl, rfl⟩) fun vs s4 g4 => ?_
  obtain ⟨o4, K4, I4, ps, e4, f4⟩ := g4
  rw [f4] at I4
  subst e4
  have el : vl = .none := by cases pl; rfl
  have eu : vu = .none := by cases pu; rfl
  subst el eu
  have I5 : Inv X pins σ H1 { s4 with heap := s4.heap.push { cls := .type "slice", data := .fields #[.none, .none, vs] } } := I4.kept (t' := s4.toks) fun b ob q => Heap.get?_push_of_some _ q
  show wpAny (model X.prog X.w) X.A (PyProof.Rows.subscriptTail e (.Slice none none (some (.UnaryOp .USub (.Constant (.int 1) k p1) p2)) p3) (.ref a) (.ref s4.heap.objs.size)) (EP X pins σ Q) X.xe { s4 with heap := s4.heap.push { cls := .type "slice", data := .fields #[.none, .none, vs] } }
  rcases q with ⟨hx, q⟩ | ⟨hx, q⟩
  · obtain ⟨its, r, ht, hz⟩ := I5.list hx
    have hlen := r.length
    refine PyProof.Rows.tail_any (ops := [.ref a, .ref s4.heap.objs.size]) ht.isList.typeIs (PySem.slot_list_getitem.lookup) ?_ (by with_unfolding_all rfl)
    refine wpAny_getItem_list_slice ht.isList (Heap.IsSliceOf.new _ .none .none vs) pl pu ps (by decide) ?_ (by rw [List.size_toArray]; omega)
    rw [PySem.W.krv_pick]
    refine ⟨.ref _, _, I5.laid (t' := s4.toks) (o := .lst xs.reverse) (fun b ob q => Heap.get?_push_of_some _ q) (Nat.le_refl _) ?_, rfl, q _ (I5.hok.fresh (Nat.le_refl _))⟩
    exact ⟨by rw [List.length_reverse]; exact hz, _, 0, r.reverse, Heap.get?_push_size _ rfl⟩
  · obtain ⟨its, r, ht, hz⟩ := I5.tuple hx
    have hlen := r.length
    have ht : PyProof.Rows.IsTup (s4.heap.push { cls := .type "slice", data := .fields #[.none, .none, vs] }) a its.toArray := ht
    refine PyProof.Rows.tail_any (ops := [.ref a, .ref s4.heap.objs.size]) ht.typeIs (PyProof.Rows.slot_tuple_getitem.lookup) ?_ (by with_unfolding_all rfl)
    refine getItem_back ht (Heap.IsSliceOf.new _ .none .none vs) ps ?_ (by rw [List.size_toArray]; omega)
    refine ⟨.ref _, _, I5.laid (t' := s4.toks) (o := .tup xs.reverse) (fun b ob q => Heap.get?_push_of_some _ q) (Nat.le_refl _) ?_, rfl, q _ (I5.hok.fresh (Nat.le_refl _))⟩
    exact ⟨by rw [List.length_reverse]; exact hz, _, r.reverse, PyProof.Rows.IsTup.new _ _⟩
end Pd

/-! Pd, part 7: subscripts, slices, built-in functions, methods of lists. -/
namespace Pd
open PySem PySem.Spec L2

section
variable {X : Cx}
def rIxDct : R2 := fun x y H Q => ∃ a v, x = .ref a ∧ DGet H a y (some v) ∧ Q v H
theorem ix_dct (hu : X.A.units + 1 < cLine) : IxR X rIxDct := by
  intro value slice pins s σ H x y v u Q I rx ry h hs
  obtain ⟨a, z, rfl, g, q⟩ := h
  cases rx
  exact PyProof.Rows.tail_any (ops := [.ref a, u]) (dict_typeIs I g) PySem.F.slot_dict_getitem.lookup (d_getItem hu I g ry fun w' s' I' r => ⟨z, H, I', r, q⟩) hs
def rIxA (K : PySem.W.Frag) : R2 := fun x y H Q => rIx K x y H Q ∨ rIxDct x y H Q
theorem ix_all (hu : X.A.units + 1 < cLine) : IxR X (rIxA X.K) := ix_seq.or (ix_dct hu)
theorem plain_ix {b : Expr} (h : ∀ l u st p, b ≠ .Slice l u st p) : PlainIx b := by
  intro o i
  cases b <;> first | rfl | exact absurd rfl (h _ _ _ _)
end

theorem atI_rep {w : Wd} {ρ : List Addr} {H : Hp} {xs : List Val} {vs : List V} {i : Int} {v : Val} (r : RepVs w ρ H xs vs) (h : L2.atI xs i = some v) : ∃ x, L2.atI vs i = some x ∧ RepV w ρ H v x := by
  unfold L2.atI at h ⊢
  rw [r.length]
  cases q : L2.ixN xs.length i with
  | none => rw [q] at h; cases h
  | some j =>
    rw [q] at h
    exact r.get h
section
variable {w : Wd} {W : WX} {σ : L2.St} {ρ : List Addr} {H : Hp} {S : Store}
theorem ix_ok {x y : V} {u v : Val} {Q : VK} (ru : RepV w ρ H u x) (rv : RepV w ρ H v y) (rs : RepS w ρ H S) (p : Post w W σ (RepV w) ρ H (idxV u v S) Q) : rIxA w.K x y H Q := by
  unfold idxV at p
  split at p
  · simp only [RepV] at ru
    obtain ⟨a, rfl, a1⟩ := ru
    unfold idxStore at p
    split at p
    · rename_i kvs e
      obtain ⟨vs, h1, h2⟩ := dct_at rs a1 e
      split at p
      · rename_i q hq
        split at p
        · rename_i z hz
          obtain ⟨zx, k1, k2⟩ := valV_rep h2 hz
          have hy : y = kV q := by
            unfold keyOf at hq
            split at hq <;> first | cases hq | skip
            · simp only [RepV] at rv; rw [rv]; rfl
            · simp only [RepV] at rv; rw [rv]; rfl
          exact .inr ⟨a, zx, rfl, by rw [hy, ← k1]; exact DGet.k h1, p.ok k2 rs⟩
        · exact p.elim
      · exact p.elim
    · rename_i xs e
      obtain ⟨vs, h1, h2⟩ := lst_at rs a1 e
      split at p
      · split at p
        · rename_i z hz
          simp only [RepV] at rv
          obtain ⟨zx, k1, k2⟩ := atI_rep h2 hz
          exact .inl (.inl ⟨a, vs, _, zx, rfl, rv, SqL.of h1, k1, p.ok k2 rs⟩)
        · exact p.elim
      · exact p.elim
    · exact p.elim
  · simp only [RepV] at ru rv
    obtain ⟨a, vs, rfl, a1, a2⟩ := ru
    unfold ofOpt at p
    split at p
    · rename_i z hz
      obtain ⟨zx, k1, k2⟩ := atI_rep a2 hz
      exact .inl (.inr (.inl ⟨a, vs, _, zx, rfl, rv, a1.sq, k1, p.ok k2 rs⟩))
    · exact p.elim
  · rename_i z i
    simp only [RepV] at ru rv
    split at p
    · rename_i hz
      unfold ofOpt at p
      cases e : L2.atI z.cps.toList i with
      | none => rw [e] at p; exact p.elim
      | some c =>
        rw [e] at p
        exact .inl (.inr (.inr ⟨z, i, c, ru, rv, by rw [← size_eq]; exact hz, e, p.ok (by simp [RepV]) rs⟩))
    · exact p.elim
  · exact p.elim

theorem cut_rep {xs : List Val} {vs : List V} (r : RepVs w ρ H xs vs) (l h : Option Int) : RepVs w ρ H (cutL xs l h) (cutV vs l h) := by
  unfold cutL cutV
  rw [r.length]
  exact (r.drop _).take _
theorem cut_ints (ns : List Int) (l h : Option Int) : RepVs w ρ H (cutL (ns.map Val.int) l h) (cutV (ns.map V.int) l h) := cut_rep (RepVs.ints ns) l h
def rSlc (K : PySem.W.Frag) : V → Option Int → Option Int → Hp → VK → Prop := fun x lo hi H Q => rSlA K x lo hi H Q ∨ rSlL K x lo hi H Q ∨ rSlS x lo hi H Q
theorem sl_all {X : Cx} : SlR X (rSlc X.K) := sl_tupA.or (sl_list.or sl_str)
theorem cut_whole {α : Type} (xs : List α) (l h : Option Int) (e : HT.sIx xs.length 0 l = 0 ∧ HT.sIx xs.length xs.length h = xs.length) : cutL xs l h = xs := by
  unfold cutL
  rw [e.1, e.2]
  simp
theorem slc_ok {x : V} {u : Val} {l h : Option Int} {Q : VK} (ru : RepV w ρ H u x) (rs : RepS w ρ H S) (p : Post w W σ (RepV w) ρ H (slcV u l h S) Q) : rSlc w.K x l h H Q := by
  unfold slcV at p
  split at p
  · rename_i xs
    simp only [RepV] at ru
    obtain ⟨a, vs, rfl, a1, a2⟩ := ru
    refine .inl ⟨a, vs, rfl, a1.sq, fun e => ?_, fun _ q hq => ?_⟩
    · rw [a2.length] at e
      rw [cut_whole xs l h e] at p
      exact p.ok (by simp only [RepV]; exact ⟨a, vs, rfl, a1, a2⟩) rs
    · exact p _ _ _ (Ext.new rs hq) (rep_newtup rs hq (cut_rep a2 l h)) (rs.new hq)
  · rename_i z
    simp only [RepV] at ru
    split at p
    · rename_i hz
      refine .inr (.inr ⟨z, ru, by rw [← size_eq]; exact hz, ?_⟩)
      refine p.ok ?_ rs
      simp only [RepV]
      unfold cutS cutL
      rw [Array.length_toList]
      rfl
    · exact p.elim
  · rename_i ns
    simp only [RepV] at ru
    obtain ⟨a, rfl, a1⟩ := ru
    exact .inr (.inl ⟨a, _, rfl, a1.sq, p.alloc_lst rs (cut_ints ns l h)⟩)
  · simp only [RepV] at ru
    obtain ⟨a, rfl, a1⟩ := ru
    unfold cutLst at p
    split at p
    · rename_i xs e
      obtain ⟨vs, h1, h2⟩ := lst_at rs a1 e
      exact .inr (.inl ⟨a, vs, rfl, SqL.of h1, p.alloc_lst rs (cut_rep h2 l h)⟩)
    · exact p.elim
  · exact p.elim
end

section
variable {w : Wd} {T : Tab} {fuel k : Nat} {N : List Str} {ow sc : Scope} {W : WX} {X : Cx}
theorem de_idx (G : Good w T fuel k N ow sc W X) {a b : Expr} {ma mb : Env → M Val} {pos : Pos} (hs : ∀ l u st p, b ≠ .Slice l u st p) (ha : DE w W X a ma) (hb : DE w W X b mb) :
    DE w W X (.Subscript a b pos) (fun env => do let x ← ma env; let y ← mb env; idxV x y) := by
  obtain ⟨ta, pa, qa⟩ := ha.ex
  obtain ⟨tb, pb, qb⟩ := hb.ex
  refine ⟨_, pe_ix (ix_all (hu_of G.room)) pa pb (plain_ix hs), fun ρ σ H env S Q re rs p => ?_⟩
  refine qa ρ σ H env S _ re rs (p.bind.imp fun x H1 ⟨u, ρ1, S1, e1, r1, s1, p1⟩ => ?_)
  refine qb ρ1 σ H1 env S1 _ (re.ext e1) s1 (p1.bind.imp fun y H2 ⟨v, ρ2, S2, e2, r2, s2, p2⟩ => ?_)
  rw [G.hK]
  exact ix_ok (r1.ext e2) r2 s2 p2
/-- an end of a slice -/
structure DO (w : Wd) (W : WX) (X : Cx) (e : Option Expr) (m : Env → M (Option Int)) : Prop where
  ex : ∃ t, PO X e t ∧ ∀ ρ σ H env S (Q : Option Int → Hp → Prop), RepE w ρ H env σ → RepS w ρ H S → Post w W σ (fun _ _ a b => a = b) ρ H (m env S) Q → t σ H Q
theorem do_none : DO w W X none (fun _ => pure none) := ⟨_, po_none, fun ρ σ H env S Q re rs p => p.ok rfl rs⟩
theorem do_some {e : Expr} {m : Env → M Val} (h : DE w W X e m) : DO w W X (some e) (fun env => do
    let x ← m env
    match x with
    | .int i => pure (some i)
    | _ => stuck) := by
  obtain ⟨t, pt, q⟩ := h.ex
  refine ⟨_, po_some pt, fun ρ σ H env S Q re rs p => ?_⟩
  refine q ρ σ H env S _ re rs (p.bind.imp fun x H1 ⟨u, ρ1, S1, e1, r1, s1, p1⟩ => ?_)
  split at p1
  · simp only [RepV] at r1
    exact ⟨_, r1, p1.ok rfl s1⟩
  · exact p1.elim
theorem de_slc (G : Good w T fuel k N ow sc W X) {a : Expr} {lo hi : Option Expr} {ma : Env → M Val} {ml mh : Env → M (Option Int)} {pos p2 : Pos} (ha : DE w W X a ma) (hl : DO w W X lo ml) (hh : DO w W X hi mh) :
    DE w W X (.Subscript a (.Slice lo hi none p2) pos) (fun env => do let x ← ma env; let l ← ml env; let h ← mh env; slcV x l h) := by
  obtain ⟨ta, pa, qa⟩ := ha.ex
  obtain ⟨tl, pl, ql⟩ := hl.ex
  obtain ⟨th, ph, qh⟩ := hh.ex
  refine ⟨_, pe_slice sl_all pa pl ph, fun ρ σ H env S Q re rs p => ?_⟩
  refine qa ρ σ H env S _ re rs (p.bind.imp fun x H1 ⟨u, ρ1, S1, e1, r1, s1, p1⟩ => ?_)
  refine ql ρ1 σ H1 env S1 _ (re.ext e1) s1 (p1.bind.imp fun y H2 ⟨v, ρ2, S2, e2, r2, s2, p2⟩ => ?_)
  subst r2
  refine qh ρ2 σ H2 env S2 _ (re.ext (e1.trans e2)) s2 (p2.bind.imp fun z H3 ⟨v3, ρ3, S3, e3, r3, s3, p3⟩ => ?_)
  subst r3
  rw [G.hK]
  exact slc_ok ((r1.ext e2).ext e3) s3 p3
theorem de_rev (G : Good w T fuel k N ow sc W X) {a : Expr} {ma : Env → M Val} {j : Nat} {p1 p2 p3 pos : Pos} (ha : DE w W X a ma) :
    DE w W X (.Subscript a (.Slice none none (some (.UnaryOp .USub (.Constant (.int 1) j p1) p2)) p3) pos) (fun env => do let x ← ma env; revV x) := by
  obtain ⟨ta, pa, qa⟩ := ha.ex
  refine ⟨_, pe_back pa, fun ρ σ H env S Q re rs p => ?_⟩
  refine qa ρ σ H env S _ re rs (p.bind.imp fun x H1 ⟨u, ρ1, S1, e1, r1, s1, p1⟩ => ?_)
  rw [G.hK]
  unfold revV at p1
  split at p1
  · rename_i xs
    simp only [RepV] at r1
    obtain ⟨a, vs, rfl, a1, a2⟩ := r1
    refine ⟨a, vs, rfl, .inr ⟨a1.sq, fun q hq => ?_⟩⟩
    exact p1 _ _ _ (Ext.new s1 hq) (rep_newtup s1 hq a2.reverse) (s1.new hq)
  · rename_i ns
    simp only [RepV] at r1
    obtain ⟨a, rfl, a1⟩ := r1
    exact ⟨a, _, rfl, .inl ⟨a1.sq, p1.alloc_lst s1 (RepVs.ints ns).reverse⟩⟩
  · simp only [RepV] at r1
    obtain ⟨a, rfl, a1⟩ := r1
    unfold revLst at p1
    split at p1
    · rename_i xs e
      obtain ⟨vs, h1, h2⟩ := lst_at s1 a1 e
      exact ⟨a, vs, rfl, .inl ⟨SqL.of h1, p1.alloc_lst s1 h2.reverse⟩⟩
    · exact p1.elim
  · exact p1.elim
theorem de_neg {a : Expr} {ma : Env → M Val} {pos : Pos} (ha : DE w W X a ma) : DE w W X (.UnaryOp .USub a pos) (fun env => do
    let x ← ma env
    match x with
    | .int i => pure (.int (-i))
    | _ => stuck) := by
  obtain ⟨ta, pa, qa⟩ := ha.ex
  refine ⟨_, pe_un un_neg pa, fun ρ σ H env S Q re rs p => ?_⟩
  refine qa ρ σ H env S _ re rs (p.bind.imp fun x H1 ⟨u, ρ1, S1, e1, r1, s1, p1⟩ => ?_)
  split at p1
  · simp only [RepV] at r1
    exact ⟨_, r1, p1.ok (by simp [RepV]) s1⟩
  · exact p1.elim
end
end Pd

/-! Pd, part 8: built-in functions and methods. -/
namespace Pd
open PySem PySem.Spec L2

section
variable {w : Wd} {W : WX} {σ : L2.St} {ρ : List Addr} {H : Hp} {S : Store}
theorem lst_read (rs : RepS w ρ H S) {v : Val} {x : V} {l : List Val} (r : RepV w ρ H v x) (h : lstOf S v = some l) : ∃ a vs, x = .ref a ∧ SqL w.K H a vs ∧ RepVs w ρ H l vs := by
  unfold lstOf at h
  split at h
  · rename_i ns
    simp only [RepV] at r
    obtain ⟨a, rfl, a1⟩ := r
    have e := Option.some.inj h
    subst e
    exact ⟨a, _, rfl, a1.sq, RepVs.ints ns⟩
  · simp only [RepV] at r
    obtain ⟨a, rfl, a1⟩ := r
    split at h
    · rename_i xs e
      have e' := Option.some.inj h
      subst e'
      obtain ⟨vs, h1, h2⟩ := lst_at rs a1 e
      exact ⟨a, vs, rfl, SqL.of h1, h2⟩
    · cases h
  · cases h
theorem ints_of : ∀ {l : List Val} {ns : List Int} {vs : List V}, RepVs w ρ H l vs → intsOf l = some ns → vs = ns.map V.int
  | [], ns, vs, r, h => by
    simp only [RepVs] at r; subst r
    have e := Option.some.inj h
    subst e; rfl
  | x :: l, ns, vs, r, h => by
    simp only [RepVs] at r
    obtain ⟨v, u, rfl, r1, r2⟩ := r
    cases x <;> first | cases h | skip
    rename_i i
    have h' : (intsOf l).map (i :: ·) = some ns := h
    cases q : intsOf l with
    | none => rw [q] at h'; cases h'
    | some ms =>
      rw [q] at h'
      have e := Option.some.inj h'
      subst e
      simp only [RepV] at r1
      rw [r1, ints_of r2 q]
      rfl
theorem bools_of : ∀ {l : List Val} {ns : List Bool} {vs : List V}, RepVs w ρ H l vs → boolsOf l = some ns → vs = ns.map V.bl
  | [], ns, vs, r, h => by
    simp only [RepVs] at r; subst r
    have e := Option.some.inj h
    subst e; rfl
  | x :: l, ns, vs, r, h => by
    simp only [RepVs] at r
    obtain ⟨v, u, rfl, r1, r2⟩ := r
    cases x <;> first | cases h | skip
    rename_i i
    have h' : (boolsOf l).map (i :: ·) = some ns := h
    cases q : boolsOf l with
    | none => rw [q] at h'; cases h'
    | some ms =>
      rw [q] at h'
      have e := Option.some.inj h'
      subst e
      simp only [RepV] at r1
      rw [r1, bools_of r2 q]
      rfl
end

/-! ### repr, no repr under way -/
section
variable {X : Cx}
def rRepr (K : PySem.W.Frag) : List V → Hp → VK → Prop := fun xs H Q => ∃ x d, xs = [x] ∧ Dp K H x d ∧ d.showable = true ∧ d.shown.length ≤ sizeLine ∧ d.depth ≤ 60 ∧ d.hasDict = false ∧ Q (.str d.shown) H
theorem call_repr {k : Nat} (hr : Room k X.A) (hg : X.A.guards = some []) : CallR X (.builtin "repr") (rRepr X.K) := by
  intro pins s σ H xs us Q I r h
  obtain ⟨x, d, rfl, hd, hs, hz, hp, hn, q⟩ := h
  obtain ⟨u, rfl, ru⟩ := vals1 r
  obtain ⟨as, rd⟩ := Dp.reads I d x u hd ru
  have hu := hr.units
  cases hd with
  | non => cases ru; simp only [PyData.shown] at q; exact PySem.P.repr_of_none ⟨.str _, H, I.tok _, ⟨_, rfl⟩, q⟩
  | bl b => cases ru; simp only [PyData.shown] at q; exact PySem.P.repr_of_bool ⟨.str _, H, I.tok _, ⟨_, rfl⟩, q⟩
  | int i =>
    obtain ⟨t, rfl⟩ := ru
    simp only [PyData.shown] at q
    exact PySem.P.repr_of_int (by simpa [PyData.showable] using hs) ⟨.str _, H, I.tok _, ⟨_, rfl⟩, q⟩
  | str y =>
    obtain ⟨t, rfl⟩ := ru
    simp only [PyData.shown] at q hz
    exact PySem.P.repr_of_str ⟨.str _, H, I.tok _, ⟨_, rfl⟩, q⟩ hz
  | lst h1 h2 =>
    cases ru
    exact PySem.repr_of_reads' rd hs (PyData.noDict_hsm hn) hg (by omega) (fun _ _ e => e) (fun h' u tk hk => ⟨.str _, H, I.kept hk, ⟨_, rfl⟩, q⟩) hz
  | tup h1 h2 =>
    cases ru
    exact PySem.repr_of_reads' rd hs (PyData.noDict_hsm hn) hg (by omega) (fun _ _ e => e) (fun h' u tk hk => ⟨.str _, H, I.kept hk, ⟨_, rfl⟩, q⟩) hz
end

/-! ### the rules of each -/
def isTy : Bf → Bool
  | .int | .str | .tuple | .list => true
  | _ => false
def bfVal (b : Bf) : Value := match b with
  | .len => .builtin "len" | .abs => .builtin "abs" | .repr => .builtin "repr" | .str => .type "str" | .int => .type "int" | .tuple => .type "tuple" | .list => .type "list"
  | .sum => .builtin "sum" | .all => .builtin "all" | .any => .builtin "any" | .min2 => .builtin "min" | .max2 => .builtin "max"
def rBf (K : PySem.W.Frag) : Bf → List V → Hp → VK → Prop
  | .len => fun xs H Q => (∃ p ys, xs = [.ref p] ∧ (SqL K H p ys ∨ SqT K H p ys) ∧ Q (.int ys.length) H) ∨ (∃ z, xs = [.str z] ∧ z.length ≤ sizeLine ∧ Q (.int z.length) H) ∨ (∃ a kvs, xs = [V.ref a] ∧ H a = some (.dK kvs) ∧ Q (.int kvs.length) H)
  | .abs => fun xs H Q => ∃ i, xs = [.int i] ∧ Q (.int (if i < 0 then -i else i)) H
  | .repr => rRepr K
  | .int => fun xs H Q => (∃ i, xs = [.int i] ∧ Q (.int i) H) ∨ ∃ k, xs = [.bl k] ∧ Q (.int (if k then 1 else 0)) H
  | .str => fun xs H Q => (∃ i, xs = [.int i] ∧ i.natAbs.log2 < 1920 ∧ Q (.str (toString i)) H) ∨ ∃ a, xs = [.str a] ∧ Q (.str a) H
  | .tuple => fun xs H Q => ∃ p ys, xs = [.ref p] ∧ ((SqL K H p ys ∧ ∀ l, H l = none → Q (.ref l) (upd H l (.tup ys))) ∨ (SqT K H p ys ∧ Q (.ref p) H))
  | .list => fun xs H Q => ∃ p ys, xs = [.ref p] ∧ (SqL K H p ys ∨ SqT K H p ys) ∧ ∀ l, H l = none → Q (.ref l) (upd H l (.lst ys))
  | .sum => rSum K
  | .all => rAll K
  | .any => rAny K
  | .min2 => fun xs H Q => ∃ i j, xs = [.int i, .int j] ∧ Q (.int (if j < i then j else i)) H
  | .max2 => fun xs H Q => ∃ i j, xs = [.int i, .int j] ∧ Q (.int (if j > i then j else i)) H
theorem cr_bf {X : Cx} {k : Nat} (hr : Room k X.A) (hg : X.A.guards = some []) (hc : X.calm = true) (b : Bf) : CallR X (bfVal b) (rBf X.K b) := by
  cases b
  · exact call_len_seq.or (call_len_str.or call_lenD)
  · exact call_abs
  · exact call_repr hr hg
  · exact call_str_int.or SkE.call_str_str
  · exact call_int1
  · exact call_tuple_of
  · exact call_list_of
  · exact cr_sum hc
  · exact cr_all hc
  · exact cr_any hc
  · exact call_min2 hc
  · exact call_max2 hc
theorem pe_bf {X : Cx} {b : Bf} {r : List V → Hp → VK → Prop} {e : Expr} {es : List Expr} {t : TA} {p pos : Pos} (hc : CallR X (bfVal b) r) (hg : Gl X (bfName b)) (hm : X.mg (bfName b) = none) (ha : PA X (e :: es) t)
    (he : starEach (e :: es) X.env = (false, eval e X.env) :: starEach es X.env) (hpl : (backTo pos (starEach es X.env)).any (·.1) = false) : PE X (.Call (.Name (bfName b) p) (e :: es) [] pos) (tCB r t) := by
  cases b <;> first
    | exact pe_callB hc hg hm (by decide +kernel) ha (by decide +kernel) (by decide +kernel) he hpl
    | exact pe_callTy hc hg hm (by decide +kernel) ha (by decide +kernel) (by decide +kernel) he hpl

section
variable {w : Wd} {W : WX} {σ : L2.St} {ρ : List Addr} {H : Hp} {S : Store}
theorem bf_ok {b : Bf} {us : List Val} {xs : List V} {Q : VK} (r : RepVs w ρ H us xs) (rs : RepS w ρ H S) (p : Post w W σ (RepV w) ρ H (biV b us S) Q) : rBf w.K b xs H Q := by
  unfold biV at p
  split at p
  · rename_i v
    simp only [RepVs] at r
    obtain ⟨x, _, rfl, r1, rfl⟩ := r
    cases b <;> dsimp only at p <;> first | exact p.elim | skip
    · -- len
      unfold lenV at p
      split at p
      · split at p
        · rename_i hz
          simp only [RepV] at r1
          subst r1
          exact .inr (.inl ⟨_, rfl, by rw [← size_eq]; exact hz, p.ok (by simp [RepV]) rs⟩)
        · exact p.elim
      · split at p
        · rename_i l hl
          obtain ⟨a, vs, rfl, h1, h2⟩ := seq_read rs r1 hl
          exact .inl ⟨a, vs, rfl, h1, p.ok (by simp [RepV, h2.length]) rs⟩
        · split at p
          · split at p
            · rename_i kvs hk
              simp only [RepV] at r1
              obtain ⟨a, rfl, a1⟩ := r1
              obtain ⟨vs, h1, h2⟩ := dct_at rs a1 hk
              exact .inr (.inr ⟨a, vs, rfl, h1, p.ok (by simp [RepV, h2.length]) rs⟩)
            · exact p.elim
          · exact p.elim
    · unfold absF at p
      split at p
      · simp only [RepV] at r1; subst r1
        exact ⟨_, rfl, p.ok (by simp [RepV]) rs⟩
      · exact p.elim
    · unfold reprV at p
      split at p
      · rename_i d hd
        split at p
        · rename_i hz
          simp only [Bool.and_eq_true, decide_eq_true_eq, Bool.not_eq_true'] at hz
          exact ⟨x, d, rfl, dp_of rs _ _ _ _ r1 hd, hz.1.1.1, by rw [← size_eq]; exact hz.1.1.2, hz.1.2, hz.2, p.ok (by simp [RepV]) rs⟩
        · exact p.elim
      · exact p.elim
    · unfold strF at p
      split at p
      · split at p
        · rename_i hz
          simp only [RepV] at r1; subst r1
          exact .inl ⟨_, rfl, hz, p.ok (by simp [RepV]) rs⟩
        · exact p.elim
      · simp only [RepV] at r1; subst r1
        exact .inr ⟨_, rfl, p.ok (by simp [RepV]) rs⟩
      · exact p.elim
    · unfold intF at p
      split at p
      · simp only [RepV] at r1; subst r1
        exact .inl ⟨_, rfl, p.ok (by simp [RepV]) rs⟩
      · simp only [RepV] at r1; subst r1
        exact .inr ⟨_, rfl, p.ok (by simp [RepV]) rs⟩
      · exact p.elim
    · unfold tupF at p
      split at p
      · have r1' := r1
        simp only [RepV] at r1
        obtain ⟨a, vs, rfl, a1, a2⟩ := r1
        exact ⟨a, vs, rfl, .inr ⟨a1.sq, p.ok r1' rs⟩⟩
      · split at p
        · rename_i l hl
          obtain ⟨a, vs, rfl, h1, h2⟩ := lst_read rs r1 hl
          exact ⟨a, vs, rfl, .inl ⟨h1, fun q hq => p _ _ _ (Ext.new rs hq) (rep_newtup rs hq h2) (rs.new hq)⟩⟩
        · exact p.elim
    · unfold lstF at p
      split at p
      · rename_i l hl
        obtain ⟨a, vs, rfl, h1, h2⟩ := seq_read rs r1 hl
        exact ⟨a, vs, rfl, h1, p.alloc_lst rs h2⟩
      · exact p.elim
    · unfold sumF at p
      split at p
      · rename_i l hl
        split at p
        · rename_i ns hn
          obtain ⟨a, vs, rfl, h1, h2⟩ := lst_read rs r1 hl
          have e := ints_of h2 hn
          subst e
          exact ⟨a, ns, rfl, h1, p.ok (by simp [RepV]) rs⟩
        · exact p.elim
      · exact p.elim
    · unfold allF at p
      split at p
      · rename_i l hl
        split at p
        · rename_i ns hn
          obtain ⟨a, vs, rfl, h1, h2⟩ := lst_read rs r1 hl
          have e := bools_of h2 hn
          subst e
          exact ⟨a, ns, rfl, h1, p.ok (by simp [RepV]) rs⟩
        · exact p.elim
      · exact p.elim
    · unfold anyF at p
      split at p
      · rename_i l hl
        split at p
        · rename_i ns hn
          obtain ⟨a, vs, rfl, h1, h2⟩ := lst_read rs r1 hl
          have e := bools_of h2 hn
          subst e
          exact ⟨a, ns, rfl, h1, p.ok (by simp [RepV]) rs⟩
        · exact p.elim
      · exact p.elim
  · rename_i v u
    simp only [RepVs] at r
    obtain ⟨x, _, rfl, r1, y, _, rfl, r2, rfl⟩ := r
    cases b <;> dsimp only at p <;> first | exact p.elim | skip
    · unfold minF at p
      split at p
      · simp only [RepV] at r1 r2; subst r1 r2
        exact ⟨_, _, rfl, p.ok (by simp [RepV]) rs⟩
      · exact p.elim
    · unfold maxF at p
      split at p
      · simp only [RepV] at r1 r2; subst r1 r2
        exact ⟨_, _, rfl, p.ok (by simp [RepV]) rs⟩
      · exact p.elim
  · exact p.elim
end

section
variable {w : Wd} {T : Tab} {fuel k : Nat} {N : List Str} {ow sc : Scope} {W : WX} {X : Cx}
/-- plain arguments -/
def NoStar (es : List Expr) : Prop := ∀ e ∈ es, ∀ x p, e ≠ .Starred x p
theorem NoStar.any {es : List Expr} (h : NoStar es) (env : PySem.Env) (pos : Pos) : (backTo pos (starEach es env)).any (·.1) = false := by
  induction es with
  | nil => rfl
  | cons e es ih =>
    rw [star_cons (h e List.mem_cons_self)]
    show (false || (backTo pos (starEach es env)).any (·.1)) = false
    rw [ih fun x hx => h x (List.mem_cons_of_mem _ hx)]
    rfl
theorem de_bi (G : Good w T fuel k N ow sc W X) {b : Bf} {e : Expr} {es : List Expr} {ms : Env → M (List Val)} {p pos : Pos} (hg : glB sc (bfName b) = true) (hm : bfName b ∈ T.blts) (hn : NoStar (e :: es)) (hs : DA w W X (e :: es) ms) :
    DE w W X (.Call (.Name (bfName b) p) (e :: es) [] pos) (fun env => do let xs ← ms env; biV b xs) := by
  obtain ⟨t, pt, q⟩ := hs.ex
  refine ⟨_, pe_bf (cr_bf G.room G.grd G.calm b) (gl_of G hg) (G.blts _ hm) pt (star_cons (hn e List.mem_cons_self)) (NoStar.any (fun x hx => hn x (List.mem_cons_of_mem _ hx)) _ _), fun ρ σ H env S Q re rs p => ?_⟩
  refine q ρ σ H env S _ re rs (p.bind.imp fun xs H1 ⟨us, ρ1, S1, e1, r1, s1, p1⟩ => ?_)
  show rBf X.K b xs H1 Q
  rw [G.hK]
  exact bf_ok r1 s1 p1
end
end Pd

/-! Pd, part 9: calls of the text's own defs; methods of lists; isinstance. -/
namespace Pd
open PySem PySem.Spec L2

section
variable {w : Wd} {T : Tab} {fuel k : Nat} {N : List Str} {ow sc : Scope} {W : WX} {X : Cx}
/-- the callee runs; what it raises is ours to take -/
theorem run_own {j : Nat} {f : Addr} {fd : FuncData} {ps : List Str} {sp : Sp} {pins : List (Addr × Obj)} {σ : L2.St} {H : Hp} {s : Shared} {Q : VK} {us : List Value} {vs : List V}
    (F : FnG X.prog X.w X.K X.mg X.base j f fd ps sp) (hr : Room j X.A) (hg : X.A.guards = some []) (hb : Binds X.K fd ps []) (tk : Takes X W) (I : Inv X pins σ H s) (r : Vals vs us)
    (h : sp vs H Q (fun c d H' => W c d σ H')) : wpAny (model X.prog X.w) X.A (call (.ref f) us) (EP X pins σ Q) X.xe s := by
  have hl : us.length = ps.length := by rw [← r.length]; exact F.len _ _ _ _ h
  have hb' : BindsTo s fd ⟨us, []⟩ (ps.zip us) := by
    have := hb s us I.kIn (by simpa using hl)
    simpa using this
  refine wpAny_call (codeAny_mono (F.run X.A X.stack s H ⟨us, []⟩ us vs Q _ hr hg I.env0 hb' r h) fun res s' hq => ?_)
  cases res with
  | error e => exact tk e s' (XE.of_call I (fun _ _ _ z => z) hq)
  | ok fl =>
    cases fl with
    | ret u => exact I.after hq
    | next => exact hq.elim
    | brk => exact hq.elim
    | cont => exact hq.elim
def tOwn (W : WX) (sp : Sp) (t : TA) : TE := fun σ H Q => t σ H fun vs H1 => sp vs H1 Q (fun c d H' => W c d σ H')
theorem pe_own {j : Nat} {f : Addr} {fd : FuncData} {ps : List Str} {sp : Sp} {x : Str} {p pos : Pos} {e : Expr} {es : List Expr} {t : TA}
    (F : FnG X.prog X.w X.K X.mg X.base j f fd ps sp) (hr : Room j X.A) (hg : X.A.guards = some []) (hb : Binds X.K fd ps []) (tk : Takes X W)
    (hx : Gl X x) (hm : X.mg x = some (.ref f)) (hk : PySem.W.keepIn X.K (.ref f) = true) (hdb : (x == ("__debug__" : Str)) = false) (ha : PA X (e :: es) t)
    (he : starEach (e :: es) X.env = (false, eval e X.env) :: starEach es X.env) (hpl : (backTo pos (starEach es X.env)).any (·.1) = false) :
    PE X (.Call (.Name x p) (e :: es) [] pos) (tOwn W sp t) := by
  refine ⟨fun pins s σ H Q I h => wpAny_Call_Name_kw (ld_glob I hx hm ?_ hdb)⟩
  refine PySem.W.callWith_K (h₀ := X.base) I.ok.mod.kin hk (thn (ha.run pos pins s σ H _ I h) fun us s1 ⟨vs, H1, I1, r, q⟩ => ⟨I1.kIn, ?_⟩) he hpl
  exact run_own F hr hg hb tk I1 r q
theorem pe_own0 {j : Nat} {f : Addr} {fd : FuncData} {ps : List Str} {sp : Sp} {x : Str} {p pos : Pos}
    (F : FnG X.prog X.w X.K X.mg X.base j f fd ps sp) (hr : Room j X.A) (hg : X.A.guards = some []) (hb : Binds X.K fd ps []) (tk : Takes X W)
    (hx : Gl X x) (hm : X.mg x = some (.ref f)) (hk : PySem.W.keepIn X.K (.ref f) = true) (hdb : (x == ("__debug__" : Str)) = false) :
    PE X (.Call (.Name x p) [] [] pos) (tOwn W sp tNil) := by
  refine ⟨fun pins s σ H Q I h => wpAny_Call_Name_kw (ld_glob I hx hm ?_ hdb)⟩
  exact PySem.W.callWith_K0 I.kIn hk (run_own (us := []) F hr hg hb tk I .nil h)

theorem own_ok {f : Nat} {d : FnD} (hd : T.fns[f]? = some d) {ρ : List Addr} {σ : L2.St} {H : Hp} {us : List Val} {xs : List V} {S : Store} {Q : VK} (r1 : RepVs w ρ H us xs) (s1 : RepS w ρ H S)
    (p1 : Post w W σ (RepV w) ρ H (callF T fuel k f us S) Q) : spOf w T fuel k f xs H Q (fun c d H' => W c d σ H') := by
  refine ⟨d, ρ, S, us, hd, r1, s1, ?_, p1⟩
  cases k with
  | zero => exact p1.elim
  | succ k' =>
    unfold callF at p1
    rw [hd] at p1
    dsimp only at p1
    by_cases c : us.length = d.np
    · exact c
    · rw [if_neg c] at p1; exact p1.elim
theorem de_call (G : Good w T fuel k N ow sc W X) {f : Nat} {x : Str} {e : Expr} {es : List Expr} {ms : Env → M (List Val)} {p pos : Pos} {d : FnD} (hd : T.fns[f]? = some d) (hx : d.name = x) (hg : glB sc x = true) (hdb : notDbg x = true)
    (hn : NoStar (e :: es)) (hs : DA w W X (e :: es) ms) :
    DE w W X (.Call (.Name x p) (e :: es) [] pos) (fun env => do let xs ← ms env; callF T fuel k f xs) := by
  obtain ⟨t, pt, q⟩ := hs.ex
  obtain ⟨a, fd, hm, hk, hb, F⟩ := (G.fns f d hd).ex
  rw [hx] at hm
  have F' : FnG X.prog X.w X.K X.mg X.base (2 * k) a fd (d.N.take d.np) (spOf w T fuel k f) := by rw [G.hK]; exact F
  refine ⟨_, pe_own (W := W) F' (G.room.mono (by omega)) G.grd (by rw [G.hK]; exact hb) G.tk (gl_of G hg) hm (by rw [G.hK]; exact hk) (dbg_of hdb).1 pt (star_cons (hn e List.mem_cons_self)) (NoStar.any (fun x hx => hn x (List.mem_cons_of_mem _ hx)) _ _),
    fun ρ σ H env S Q re rs p => ?_⟩
  refine q ρ σ H env S _ re rs (p.bind.imp fun xs H1 ⟨us, ρ1, S1, e1, r1, s1, p1⟩ => ?_)
  exact own_ok hd r1 s1 p1
theorem de_call0 (G : Good w T fuel k N ow sc W X) {f : Nat} {x : Str} {p pos : Pos} {d : FnD} (hd : T.fns[f]? = some d) (hx : d.name = x) (hg : glB sc x = true) (hdb : notDbg x = true) :
    DE w W X (.Call (.Name x p) [] [] pos) (fun _ => do let xs ← (pure [] : M (List Val)); callF T fuel k f xs) := by
  obtain ⟨a, fd, hm, hk, hb, F⟩ := (G.fns f d hd).ex
  rw [hx] at hm
  have F' : FnG X.prog X.w X.K X.mg X.base (2 * k) a fd (d.N.take d.np) (spOf w T fuel k f) := by rw [G.hK]; exact F
  refine ⟨_, pe_own0 (W := W) F' (G.room.mono (by omega)) G.grd (by rw [G.hK]; exact hb) G.tk (gl_of G hg) hm (by rw [G.hK]; exact hk) (dbg_of hdb).1, fun ρ σ H env S Q re rs p => ?_⟩
  exact own_ok hd (by simp [RepVs]) rs p

/-! ### isinstance -/
theorem ty_at (G : Good w T fuel k N ow sc W X) {ρ : List Addr} {H : Hp} {S : Store} (rs : RepS w ρ H S) {v : Val} {x : V} (r : RepV w ρ H v x) :
    ∃ u, tyVal w (tyV S v) = some u ∧ TyX X.K H x u := by
  rw [G.hK]
  cases v with
  | non => simp only [RepV] at r; subst r; exact ⟨_, rfl, .base .non⟩
  | bl b => simp only [RepV] at r; subst r; exact ⟨_, rfl, .base (.bl b)⟩
  | int b => simp only [RepV] at r; subst r; exact ⟨_, rfl, .base (.int b)⟩
  | str b => simp only [RepV] at r; subst r; exact ⟨_, rfl, .base (.str b)⟩
  | tup xs =>
    simp only [RepV] at r
    obtain ⟨a, vs, rfl, a1, a2⟩ := r
    refine ⟨_, rfl, ?_⟩
    rcases a1 with ⟨_, h | ⟨o, h⟩⟩ | ⟨o, its, n, h, hc, _⟩
    · exact .base (.tup h)
    · exact .fTuple h
    · exact .kTuple h hc
  | ins c fs =>
    simp only [RepV] at r
    obtain ⟨p, C, dx, ns, vs, rfl, h1, _, h3, _⟩ := r
    have A := G.cls c C ns h1
    refine ⟨.ref C, by show (w.cls c).map _ = _; rw [h1]; rfl, .base (.ins h3 A.cl A.ha A.hn A.ht A.hm)⟩
  | scr ns =>
    simp only [RepV] at r
    obtain ⟨a, rfl, a1⟩ := r
    refine ⟨_, rfl, ?_⟩
    rcases a1 with ⟨_, o, h⟩ | ⟨o, its, n, h, hc, _⟩
    · exact .base (.frz h)
    · exact .kList h hc
  | ref i =>
    simp only [RepV] at r
    obtain ⟨a, rfl, a1⟩ := r
    obtain ⟨j, c, o, h1, h2, h3, h4⟩ := rs.there (List.mem_of_getElem? a1)
    have hi : i < S.length := by rw [← rs.len]; exact (List.getElem?_eq_some_iff.mp a1).1
    obtain ⟨o, h3, h4⟩ := rs.cell i a _ a1 (List.getElem?_eq_getElem hi)
    have e : S[i]? = some S[i] := List.getElem?_eq_getElem hi
    cases q : S[i] with
    | lst xs =>
      rw [q] at h4 e
      obtain ⟨vs, rfl, _⟩ := h4
      exact ⟨.type "list", by simp only [tyV, e, tyVal], .base (.lst h3)⟩
    | dct xs =>
      rw [q] at h4 e
      obtain ⟨vs, rfl, _⟩ := h4
      exact ⟨.type "dict", by simp only [tyV, e, tyVal], .base (.dK h3)⟩
    | dtt xs =>
      rw [q] at h4 e
      obtain ⟨vs, rfl, _⟩ := h4
      exact ⟨.type "dict", by simp only [tyV, e, tyVal], .base (.dT h3)⟩
    | obj c fs =>
      rw [q] at h4 e
      obtain ⟨C, dx, ns, vs, rfl, h5, _⟩ := h4
      have A := G.cls c C ns h5
      exact ⟨.ref C, by simp only [tyV, e, tyVal, h5]; rfl, .base (.ins h3 A.cl A.ha A.hn A.ht A.hm)⟩

/-- the types' names, as values -/
def tyVs : List Ty → List V
  | [] => []
  | t :: ts => (match t with | .int => .ty "int" | .bool => .ty "bool" | .str => .ty "str" | .tuple => .ty "tuple" | .list => .ty "list" | .dict => .ty "dict" | .own _ => .non) :: tyVs ts
def tyUs : List Ty → List Value
  | [] => []
  | t :: ts => (match t with | .int => .type "int" | .bool => .type "bool" | .str => .type "str" | .tuple => .type "tuple" | .list => .type "list" | .dict => .type "dict" | .own _ => .none) :: tyUs ts
theorem tyVs_len : ∀ ts : List Ty, (tyVs ts).length = ts.length
  | [] => rfl
  | _ :: ts => by simp [tyVs, tyVs_len ts]
theorem ty_names (G : Good w T fuel k N ow sc W X) : ∀ (ts : List Ty) (es : List Expr), tyB T sc ts es = true →
    (∃ t, PA X es t ∧ ∀ σ H (Q : List V → Hp → Prop), Q (tyVs ts) H → t σ H Q) ∧ Paired ClsV (tyVs ts) (tyUs ts) ∧ (∀ t ∈ ts, t ∈ T.tys) ∧ NoStar es ∧
      ∀ t u, tyVal w t = some u → PySem.W.kitAny w.K u (tyUs ts) = some (ts.any (tyMatch t))
  | [], es, h => by
    cases es with
    | nil => exact ⟨⟨_, pa_nil, fun σ H Q q => q⟩, .nil, fun _ z => (List.not_mem_nil z).elim, (fun _ z => (List.not_mem_nil z).elim), fun _ _ _ => rfl⟩
    | cons e es => cases h
  | t :: ts, es, h => by
    cases es with
    | nil => cases h
    | cons e es =>
      cases e <;> first | cases h | skip
      rename_i x p
      simp only [tyB, Bool.and_eq_true, decide_eq_true_eq] at h
      obtain ⟨⟨⟨⟨⟨h1, h2⟩, h3⟩, h4⟩, h5⟩, h6⟩ := h
      have hm := G.blts x (by simpa using h3)
      obtain ⟨⟨tt, pt, q⟩, k1, k2, k3, k4⟩ := ty_names G ts es h6
      have one : ∃ te v u, PE X (.Name x p) te ∧ (∀ σ H (Q : VK), Q v H → te σ H Q) ∧ ClsV v u ∧ tyVs (t :: ts) = v :: tyVs ts ∧ tyUs (t :: ts) = u :: tyUs ts ∧ tyVal w (some t) = some u := by
        cases t <;> first | cases h4 | skip
        all_goals
          subst h1
          first
            | exact ⟨_, .ty "int", .type "int", pe_bltn (v := .ty "int") (u := .type "int") (gl_of G h2) hm (by decide +kernel) rfl (by decide +kernel) (by decide +kernel), fun σ H Q q => q, .ty _, rfl, rfl, rfl⟩
            | exact ⟨_, .ty "bool", .type "bool", pe_bltn (v := .ty "bool") (u := .type "bool") (gl_of G h2) hm (by decide +kernel) rfl (by decide +kernel) (by decide +kernel), fun σ H Q q => q, .ty _, rfl, rfl, rfl⟩
            | exact ⟨_, .ty "str", .type "str", pe_bltn (v := .ty "str") (u := .type "str") (gl_of G h2) hm (by decide +kernel) rfl (by decide +kernel) (by decide +kernel), fun σ H Q q => q, .ty _, rfl, rfl, rfl⟩
            | exact ⟨_, .ty "tuple", .type "tuple", pe_bltn (v := .ty "tuple") (u := .type "tuple") (gl_of G h2) hm (by decide +kernel) rfl (by decide +kernel) (by decide +kernel), fun σ H Q q => q, .ty _, rfl, rfl, rfl⟩
            | exact ⟨_, .ty "list", .type "list", pe_bltn (v := .ty "list") (u := .type "list") (gl_of G h2) hm (by decide +kernel) rfl (by decide +kernel) (by decide +kernel), fun σ H Q q => q, .ty _, rfl, rfl, rfl⟩
            | exact ⟨_, .ty "dict", .type "dict", pe_bltn (v := .ty "dict") (u := .type "dict") (gl_of G h2) hm (by decide +kernel) rfl (by decide +kernel) (by decide +kernel), fun σ H Q q => q, .ty _, rfl, rfl, rfl⟩
      obtain ⟨te, v, u, o1, o2, o3, o4, o5, o6⟩ := one
      refine ⟨⟨_, pa_cons o1 pt rfl, fun σ H Q hq => o2 σ H _ (q σ H _ (by rw [o4] at hq; exact hq))⟩, by rw [o4, o5]; exact .cons o3 k1, ?_, ?_, fun t' u' hu => ?_⟩
      · intro z hz
        rcases List.mem_cons.mp hz with rfl | hz
        · exact h5
        · exact k2 z hz
      · intro z hz
        rcases List.mem_cons.mp hz with rfl | hz
        · intro _ _ q; cases q
        · exact k3 z hz
      · have e1 := G.isi t' t u' u h5 hu o6
        have e2 := k4 t' u' hu
        rw [o5]
        refine kitAny_cons (b := tyMatch t' t) e1 (fun hb => ?_) (fun hb => ?_)
        · rw [e2, List.any_cons, hb]; rfl
        · rw [List.any_cons, hb]; rfl

theorem de_isin1 (G : Good w T fuel k N ow sc W X) {t : Ty} {e : Expr} {n : Str} {m : Env → M Val} {p q pos : Pos} (hg : glB sc "isinstance" = true) (hm : ("isinstance" : Str) ∈ T.blts) (hs : ∀ x p, e ≠ .Starred x p) (he : DE w W X e m) (ht : tyB T sc [t] [.Name n q] = true) :
    DE w W X (.Call (.Name "isinstance" p) [e, .Name n q] [] pos) (fun env => do let x ← m env; isinV [t] x) := by
  obtain ⟨te, pe, qe⟩ := he.ex
  obtain ⟨⟨tt, pt, qt⟩, k1, k2, k3, k4⟩ := ty_names G [t] _ ht
  refine ⟨_, pe_callB call_isi (gl_of G hg) (G.blts _ hm) (by decide +kernel) (pa_cons pe pt (star_cons hs)) (by decide +kernel) (by decide +kernel) (star_cons hs) (NoStar.any k3 _ _), fun ρ σ H env S Q re rs p => ?_⟩
  refine qe ρ σ H env S _ re rs (p.bind.imp fun x H1 ⟨u, ρ1, S1, e1, r1, s1, p1⟩ => qt σ H1 _ ?_)
  obtain ⟨tv, h1, h2⟩ := ty_at G s1 r1
  have e := k4 _ _ h1
  cases k1 with
  | cons c1 c2 =>
    refine ⟨x, _, tv, _, [t].any (tyMatch (tyV S1 u)), rfl, c1, h2, ?_, p1.ok (by simp [RepV]) s1⟩
    rw [G.hK]
    unfold tyUs at e
    have e3 : tyUs [] = [] := rfl
    rw [e3] at e
    unfold PySem.W.kitAny at e
    split at e
    · rename_i hb
      rw [hb, e]
    · rename_i hb
      rw [hb, ← e]
      rfl
    · cases e
theorem de_isinT (G : Good w T fuel k N ow sc W X) {ts : List Ty} {e : Expr} {es : List Expr} {j : Nat} {m : Env → M Val} {p q pos : Pos} (hg : glB sc "isinstance" = true) (hm : ("isinstance" : Str) ∈ T.blts) (hs : ∀ x p, e ≠ .Starred x p) (he : DE w W X e m) (ht : tyB T sc ts es = true) (hz : ts.length ≤ sizeMax) :
    DE w W X (.Call (.Name "isinstance" p) [e, .Tuple es j q] [] pos) (fun env => do let x ← m env; isinV ts x) := by
  obtain ⟨te, pe, qe⟩ := he.ex
  obtain ⟨⟨tt, pt, qt⟩, k1, k2, k3, k4⟩ := ty_names G ts _ ht
  refine ⟨_, pe_callB call_isiT (gl_of G hg) (G.blts _ hm) (by decide +kernel) (pa_cons pe (pa_cons (pe_tup pt) pa_nil rfl) (star_cons hs)) (by decide +kernel) (by decide +kernel) (star_cons hs) rfl, fun ρ σ H env S Q re rs p => ?_⟩
  refine qe ρ σ H env S _ re rs (p.bind.imp fun x H1 ⟨u, ρ1, S1, e1, r1, s1, p1⟩ => qt σ H1 _ ⟨by rw [tyVs_len, ← size_eq]; exact hz, fun tp hp => ?_⟩)
  have E := Ext.new (o := .tup (tyVs ts)) s1 hp
  obtain ⟨tv, h1, h2⟩ := ty_at G (s1.new (o := .tup (tyVs ts)) hp) (r1.ext E)
  refine ⟨x, tp, tyVs ts, tv, tyUs ts, _, rfl, upd_same, k1, h2, by rw [G.hK]; exact k4 _ _ h1, p1 _ _ _ E (by simp [RepV]) (s1.new hp)⟩
end
end Pd

/-! Pd, part 10: methods of lists, what is walked, comprehensions. -/
namespace Pd
open PySem PySem.Spec L2

section
variable {w : Wd} {ρ : List Addr} {H : Hp} {κ : Type} [DecidableEq κ]
theorem RepKV.anyk {kvs : List (κ × Val)} {vs : List (κ × V)} (k : κ) (h : RepKV w ρ H kvs vs) : (vs.any fun e => decide (e.1 = k)) = kvs.any fun e => decide (e.1 = k) := by
  induction kvs generalizing vs with
  | nil => simp only [RepKV] at h; subst h; rfl
  | cons e r ih =>
    obtain ⟨q, u⟩ := e
    simp only [RepKV] at h
    obtain ⟨v, vr, rfl, _, h2⟩ := h
    simp only [List.any_cons, ih h2]
theorem RepKV.mapk {kvs : List (κ × Val)} {vs : List (κ × V)} {k : κ} {x : Val} {y : V} (h : RepKV w ρ H kvs vs) (r : RepV w ρ H x y) : RepKV w ρ H (kvs.map fun e => if e.1 = k then (e.1, x) else e) (vs.map fun e => if e.1 = k then (e.1, y) else e) := by
  induction kvs generalizing vs with
  | nil => simp only [RepKV] at h; subst h; simp [RepKV]
  | cons e l ih =>
    obtain ⟨q, u⟩ := e
    simp only [RepKV] at h
    obtain ⟨v, vr, rfl, h1, h2⟩ := h
    simp only [List.map_cons]
    by_cases c : q = k
    · rw [if_pos c, if_pos c]
      simp only [RepKV]
      exact ⟨y, _, rfl, r, ih h2⟩
    · rw [if_neg c, if_neg c]
      simp only [RepKV]
      exact ⟨v, _, rfl, h1, ih h2⟩
theorem RepKV.snoc {kvs : List (κ × Val)} {vs : List (κ × V)} {k : κ} {x : Val} {y : V} (h : RepKV w ρ H kvs vs) (r : RepV w ρ H x y) : RepKV w ρ H (kvs ++ [(k, x)]) (vs ++ [(k, y)]) := by
  induction kvs generalizing vs with
  | nil =>
    simp only [RepKV] at h
    subst h
    simp only [List.nil_append, RepKV]
    exact ⟨y, [], rfl, r, rfl⟩
  | cons e l ih =>
    obtain ⟨q, u⟩ := e
    simp only [RepKV] at h
    obtain ⟨v, vr, rfl, h1, h2⟩ := h
    simp only [List.cons_append, RepKV]
    exact ⟨v, _, rfl, h1, ih h2⟩
theorem RepKV.put {kvs : List (κ × Val)} {vs : List (κ × V)} {k : κ} {x : Val} {y : V} (h : RepKV w ρ H kvs vs) (r : RepV w ρ H x y) : RepKV w ρ H (putV kvs k x) (putK vs k y) := by
  unfold putV putK
  rw [h.anyk k]
  split
  · exact h.mapk r
  · exact h.snoc r
end

section
variable {w : Wd} {ρ : List Addr} {H : Hp}
theorem RepKV.merge : ∀ {more : List (DKey × Val)} {ms : List (DKey × V)} {kvs : List (DKey × Val)} {vs : List (DKey × V)}, RepKV w ρ H more ms → RepKV w ρ H kvs vs → RepKV w ρ H (mergeV kvs more) (mergeK vs ms)
  | [], _, _, _, h, g => by simp only [RepKV] at h; subst h; exact g
  | (k, x) :: r, _, kvs, vs, h, g => by
    simp only [RepKV] at h
    obtain ⟨v, l, rfl, h1, h2⟩ := h
    show RepKV w ρ H (mergeV (putV kvs k x) r) (mergeK (putK vs k v) l)
    exact RepKV.merge h2 (g.put h1)
theorem strs_of : ∀ {l : List Val} {ys : List Str} {vs : List V}, RepVs w ρ H l vs → strsOf l = some ys → vs = ys.map V.str
  | [], ys, vs, r, h => by
    simp only [RepVs] at r; subst r
    have e := Option.some.inj h
    subst e; rfl
  | x :: l, ys, vs, r, h => by
    simp only [RepVs] at r
    obtain ⟨v, q, rfl, r1, r2⟩ := r
    cases x <;> first | (simp [strsOf] at h; done) | skip
    rename_i z
    simp only [strsOf] at h
    cases e : strsOf l with
    | none => rw [e] at h; cases h
    | some zs =>
      rw [e] at h
      have e2 := Option.some.inj h
      subst e2
      simp only [RepV] at r1
      subst r1
      rw [strs_of r2 e]
      rfl
/-- d.update(e), both dicts with plain keys -/
def rUpdD : V → List V → Hp → VK → Prop := fun x vs H Q => ∃ (a b : Addr) (kvs more : List (Key × V)), x = .ref a ∧ vs = [.ref b] ∧ a ≠ b ∧ H a = some (.dK kvs) ∧ H b = some (.dK more) ∧ kvs.length + more.length ≤ sizeLine ∧ Q .non (upd H a (.dK (mergeK kvs more)))
theorem mt_updD {X : Cx} : MtR X "dict.update" rUpdD := by
  intro pins s σ H x vs v us Q I rx rxs h
  obtain ⟨a, b, kvs, more, rfl, rfl, hab, ha, hb, hz, q⟩ := h
  cases rx
  cases rxs with
  | cons r1 rr =>
    cases rr
    cases r1
    obtain ⟨z1, hd1, vs1, rel1, dd1⟩ := dk_of I.hok ha
    obtain ⟨z2, hd2, vs2, rel2, dd2⟩ := dk_of I.hok hb
    refine call_meetsIn PySem.F.slot_dict_update dd1.typeIs PySem.F.entry_dict_update (PySem.F.args_dict_update_2 _ _) (meets_dict_update (mixKind X.prog X.w) a b hab hd2) ⟨vs1, vs2, dd1, dd2, ?_, fun h' m1 _ sb => ?_⟩
    · have e1 := rel1.length
      have e2 := rel2.length
      omega
    · have he : ∃ q, h'.get? a = some q := let ⟨q, _, _, hq, _⟩ := m1; ⟨q, hq⟩
      have hl := length_mergeK more kvs
      exact ⟨.non, _, d_write (t' := s.toks) I (by rw [ha]; exact True.intro) sb he (dk_new (by omega) hd1 (KV.merge rel2 rel1) m1), rfl, q⟩
def rGet1 : V → List V → Hp → VK → Prop := fun x vs H Q => ∃ a y o, x = .ref a ∧ vs = [y] ∧ DGet H a y o ∧ Q (o.getD .non) H
theorem mt_get1 {X : Cx} (hu : X.A.units + 1 < cLine) : MtR X "dict.get" rGet1 := by
  intro pins s σ H x vs v us Q I rx rxs h
  obtain ⟨a, y, o, rfl, rfl, g, q⟩ := h
  cases rx
  cases rxs with
  | cons r1 rr =>
    cases rr
    exact d_get1 hu I g r1 fun w' s' I' rw' => ⟨_, H, I', rw', q⟩
def rGet2 : V → List V → Hp → VK → Prop := fun x vs H Q => ∃ a y z o, x = .ref a ∧ vs = [y, z] ∧ DGet H a y o ∧ Q (o.getD z) H
theorem mt_get2 {X : Cx} (hu : X.A.units + 1 < cLine) : MtR X "dict.get" rGet2 := by
  intro pins s σ H x vs v us Q I rx rxs h
  obtain ⟨a, y, z, o, rfl, rfl, g, q⟩ := h
  cases rx
  cases rxs with
  | cons r1 rr =>
    cases rr with
    | cons r2 rr =>
      cases rr
      exact d_get2 hu I g r1 r2 fun w' s' I' rw' => ⟨_, H, I', rw', q⟩
def rJoin (K : PySem.W.Frag) : V → List V → Hp → VK → Prop := fun x xs H Q => ∃ a p, ∃ ys : List Str, x = .str a ∧ xs = [.ref p] ∧ (SqL K H p (ys.map V.str) ∨ SqT K H p (ys.map V.str)) ∧ (ys.map (·.length)).sum + ys.length * a.length ≤ 16777216 ∧ Q (.str (Txt.join a ys)) H
def rSix : V → List V → Hp → VK → Prop := fun x xs H Q => ∃ a b i rest, x = .str a ∧ xs = [.str b] ∧ Builtin.Str.occurrences a b 0 a.length 1 = i :: rest ∧ Q (.int (i : Nat)) H
end
/-- methods of lists; whose method it is -/
def lm : Bm → Bool
  | .append => true | .pop => true | .popAt => true | .extend => true | .insert => true | _ => false
def bmTy : Bm → String
  | .get1 => "dict" | .get2 => "dict" | .update => "dict" | .join => "str" | .sindex => "str" | .bitlen => "int" | _ => "list"

section
variable {w : Wd} {W : WX} {σ : L2.St} {ρ : List Addr} {H : Hp} {S : Store}
theorem erase_rep : ∀ {xs : List Val} {vs : List V} (i : Nat), RepVs w ρ H xs vs → RepVs w ρ H (xs.eraseIdx i) (vs.eraseIdx i)
  | [], _, i, h => by simp only [RepVs] at h; subst h; simp [RepVs]
  | x :: xs, _, 0, h => by
    simp only [RepVs] at h
    obtain ⟨v, r, rfl, h2, h3⟩ := h
    simpa using h3
  | x :: xs, _, i + 1, h => by
    simp only [RepVs] at h
    obtain ⟨v, r, rfl, h2, h3⟩ := h
    simp only [List.eraseIdx_cons_succ, RepVs]
    exact ⟨v, _, rfl, h2, erase_rep i h3⟩
theorem dropLast_rep {xs : List Val} {vs : List V} (h : RepVs w ρ H xs vs) : RepVs w ρ H xs.dropLast vs.dropLast := by
  rw [List.dropLast_eq_take, List.dropLast_eq_take, h.length]
  exact h.take _
/-- a list of the store's is written -/
theorem Post.wrote {β : Type} {i : Nat} {a : Addr} {xs : List Val} {vs : List V} {v : Val} {x : V} {Q : VK} (p : Post w W σ (RepV w) ρ H (.ok v (S.set i (.lst xs))) Q) (rs : RepS w ρ H S) (h : ρ[i]? = some a)
    (r : RepVs w ρ H xs vs) (rv : RepV w ρ H v x) : Q x (upd H a (.lst vs)) := by
  have E : Ext ρ H ρ (upd H a (.lst vs)) := Ext.set h
  exact p _ _ _ E (rv.ext E) (rs.set h ⟨vs, rfl, r.ext E⟩)
def rBm (K : PySem.W.Frag) : Bm → V → List V → Hp → VK → Prop
  | .append => rAppend | .pop => rPop | .popAt => rPopAt | .extend => rExtend
  | .insert => fun x vs H Q => ∃ (l : Addr) (xs : List V) (i : Int) (y : V), x = .ref l ∧ vs = [.int i, y] ∧ H l = some (.lst xs) ∧ xs.length < sizeLine ∧ 0 ≤ i ∧ i < 2 ^ 63 ∧ Q .non (upd H l (.lst (xs.take i.toNat ++ [y] ++ xs.drop i.toNat)))
  | .get1 => rGet1 | .get2 => rGet2 | .update => rUpdD | .join => rJoin K | .sindex => rSix
  | .bitlen => fun _ _ _ _ => False
theorem getV_ok {o k d : Val} {x : V} {Q : VK} (ro : RepV w ρ H o x) (rs : RepS w ρ H S) (p : Post w W σ (RepV w) ρ H (getV o k d S) Q) :
    ∃ a vs q, x = .ref a ∧ H a = some (.dK vs) ∧ keyOf k = some q ∧ ∃ kvs, RepKV w ρ H kvs vs ∧ Post w W σ (RepV w) ρ H (.ok ((lookV kvs q).getD d) S) Q := by
  unfold getV dicOf at p
  cases o <;> dsimp only at p <;> first | exact p.elim | skip
  rename_i i
  simp only [RepV] at ro
  obtain ⟨a, rfl, ha⟩ := ro
  cases e : S[i]? with
  | none => rw [e] at p; exact p.elim
  | some c =>
    rw [e] at p
    cases c <;> dsimp only at p <;> first | exact p.elim | skip
    obtain ⟨vs, h1, h2⟩ := dct_at rs ha e
    split at p
    · rename_i q hq
      exact ⟨a, vs, q, rfl, h1, hq, _, h2, p⟩
    · exact p.elim
theorem bm_ok {m : Bm} {u : Val} {us : List Val} {x : V} {xs : List V} {Q : VK} (hm : m ≠ .bitlen) (ru : RepV w ρ H u x) (r : RepVs w ρ H us xs) (rs : RepS w ρ H S) (p : Post w W σ (RepV w) ρ H (bmV m u us S) Q) : rBm w.K m x xs H Q := by
  unfold bmV at p
  split at p
  · simp only [RepV] at ru
    simp only [RepVs] at r
    obtain ⟨a, rfl, a1⟩ := ru
    obtain ⟨y, _, rfl, r1, rfl⟩ := r
    unfold appendV at p
    split at p
    · rename_i l e
      split at p
      · rename_i hz
        obtain ⟨vs, h1, h2⟩ := lst_at rs a1 e
        exact ⟨a, vs, y, rfl, rfl, h1, by rw [h2.length, ← size_eq]; exact hz, p.wrote (β := Val) rs a1 (h2.append (by simp only [RepVs]; exact ⟨y, [], rfl, r1, rfl⟩)) (by simp [RepV])⟩
      · exact p.elim
    · exact p.elim
  · simp only [RepV] at ru
    simp only [RepVs] at r
    obtain ⟨a, rfl, a1⟩ := ru
    subst r
    unfold popV at p
    split at p
    · rename_i l e
      split at p
      · rename_i v hv
        obtain ⟨vs, h1, h2⟩ := lst_at rs a1 e
        obtain ⟨y, k1, k2⟩ := h2.get hv
        exact ⟨a, vs, y, rfl, rfl, h1, by rw [h2.length]; exact k1, p.wrote (β := Val) rs a1 (dropLast_rep h2) k2⟩
      · exact p.elim
    · exact p.elim
  · simp only [RepV] at ru
    simp only [RepVs, RepV] at r
    obtain ⟨a, rfl, a1⟩ := ru
    obtain ⟨y, _, rfl, rfl, rfl⟩ := r
    unfold popAtV at p
    split at p
    · rename_i l e
      split at p
      · rename_i hz
        simp only [Bool.and_eq_true, decide_eq_true_eq] at hz
        split at p
        · rename_i j hj
          split at p
          · rename_i v hv
            obtain ⟨vs, h1, h2⟩ := lst_at rs a1 e
            obtain ⟨y, k1, k2⟩ := h2.get hv
            exact ⟨a, vs, _, j, y, rfl, rfl, h1, hz.1, hz.2, by rw [h2.length]; exact hj, k1, p.wrote (β := Val) rs a1 (erase_rep j h2) k2⟩
          · exact p.elim
        · exact p.elim
      · exact p.elim
    · exact p.elim
  · simp only [RepV] at ru
    simp only [RepVs, RepV] at r
    obtain ⟨a, rfl, a1⟩ := ru
    obtain ⟨_, _, rfl, ⟨b, rfl, b1⟩, rfl⟩ := r
    unfold extendV at p
    split at p
    · rename_i l l' e e'
      split at p
      · rename_i hz
        obtain ⟨vs, h1, h2⟩ := lst_at rs a1 e
        obtain ⟨us, h3, h4⟩ := lst_at rs b1 e'
        exact ⟨a, b, vs, us, rfl, rfl, h1, h3, by rw [h2.length, h4.length, ← size_eq]; exact hz, p.wrote (β := Val) rs a1 (h2.append h4) (by simp [RepV])⟩
      · exact p.elim
    · exact p.elim
  · simp only [RepV] at ru
    simp only [RepVs, RepV] at r
    obtain ⟨a, rfl, a1⟩ := ru
    obtain ⟨_, _, rfl, rfl, y, _, rfl, r1, rfl⟩ := r
    unfold insertV at p
    split at p
    · rename_i l e
      split at p
      · rename_i hz
        simp only [Bool.and_eq_true, decide_eq_true_eq] at hz
        obtain ⟨vs, h1, h2⟩ := lst_at rs a1 e
        refine ⟨a, vs, _, y, rfl, rfl, h1, by rw [h2.length, ← size_eq]; exact hz.1.1, hz.1.2, hz.2, p.wrote (β := Val) rs a1 ?_ (by simp [RepV])⟩
        exact ((h2.take _).append (by simp only [RepVs]; exact ⟨y, [], rfl, r1, rfl⟩)).append (h2.drop _)
      · exact p.elim
    · exact p.elim
  · exact absurd rfl hm
  · simp only [RepVs] at r
    obtain ⟨y, _, rfl, r1, rfl⟩ := r
    obtain ⟨a, vs, q, rfl, h1, ek, kvs, h2, pp⟩ := getV_ok ru rs p
    have ey := key_kV ek r1
    subst ey
    exact ⟨a, _, _, rfl, rfl, DGet.k h1, pp.ok ((look_rep h2).2 (by simp [RepV])) rs⟩
  · simp only [RepVs] at r
    obtain ⟨y, _, rfl, r1, z, _, rfl, r2, rfl⟩ := r
    obtain ⟨a, vs, q, rfl, h1, ek, kvs, h2, pp⟩ := getV_ok ru rs p
    have ey := key_kV ek r1
    subst ey
    exact ⟨a, _, z, _, rfl, rfl, DGet.k h1, pp.ok ((look_rep h2).2 r2) rs⟩
  · simp only [RepV] at ru
    simp only [RepVs, RepV] at r
    obtain ⟨a, rfl, a1⟩ := ru
    obtain ⟨_, _, rfl, ⟨b, rfl, b1⟩, rfl⟩ := r
    unfold updateV at p
    split at p
    · rename_i kvs more e1 e2
      split at p
      · rename_i hz
        simp only [Bool.and_eq_true, decide_eq_true_eq] at hz
        obtain ⟨vs, h1, h2⟩ := dct_at rs a1 e1
        obtain ⟨ms, h3, h4⟩ := dct_at rs b1 e2
        have hab : a ≠ b := fun z => by
          subst z
          obtain ⟨ha, ea⟩ := List.getElem?_eq_some_iff.mp a1
          obtain ⟨hb, eb⟩ := List.getElem?_eq_some_iff.mp b1
          exact hz.1 ((List.getElem_inj rs.nd).mp (ea.trans eb.symm))
        refine ⟨a, b, vs, ms, rfl, rfl, hab, h1, h3, by rw [h2.length, h4.length, ← size_eq]; exact hz.2, ?_⟩
        have E : Ext ρ H ρ (upd H a (.dK (mergeK vs ms))) := Ext.set a1
        exact p _ _ _ E (by simp [RepV]) (rs.set a1 ⟨_, rfl, (h4.merge h2).ext E⟩)
      · exact p.elim
    · exact p.elim
  · simp only [RepV] at ru
    simp only [RepVs] at r
    subst ru
    obtain ⟨y, _, rfl, r1, rfl⟩ := r
    unfold joinV at p
    split at p
    · rename_i l e
      split at p
      · rename_i ys e2
        split at p
        · rename_i hz
          obtain ⟨a, vs, rfl, h1, h2⟩ := seq_read rs r1 e
          have ev := strs_of h2 e2
          subst ev
          exact ⟨_, a, ys, rfl, rfl, h1, by simpa [sizeMax] using of_decide_eq_true hz, p.ok (by simp [RepV]) rs⟩
        · exact p.elim
      · exact p.elim
    · exact p.elim
  · simp only [RepV] at ru
    simp only [RepVs, RepV] at r
    subst ru
    obtain ⟨_, _, rfl, rfl, rfl⟩ := r
    unfold sindexV at p
    split at p
    · rename_i i rest e
      exact ⟨_, _, i, rest, rfl, rfl, e, p.ok (by simp [RepV]) rs⟩
    · exact p.elim
  · exact p.elim
end

/-- what stands ahead of a dot is asked as it stands -/
theorem attr_base {o : Expr} {a : Str} {env : PySem.Env} {whole : Sem Value} (h : ∀ x p q, o = .Call (.Name x p) [] [] q → x ≠ "super") : attributeBase o a env whole = whole := by
  unfold attributeBase
  split
  · rename_i id _ pos
    have e := h id _ _ rfl
    rw [if_pos (by simp [e])]
  · rfl
theorem few_ok {es : List Expr} {env : PySem.Env} {pos : Pos} (h : NoStar es) (hf : fewB es = true) : ((backTo pos (starEach es env)).all (fun x => !x.1) && (backToKw pos (keywordEach [] env)).all (fun x => x.1.isSome)
      && decide (es.length + ([] : List Keyword).length + (if ([] : List Keyword).isEmpty then 0 else 1) < 30)) = true := by
  have h1 := NoStar.any h env pos
  have h2 : (backTo pos (starEach es env)).all (fun x => !x.1) = true := by
    rw [List.all_eq_true]
    intro x hx
    rw [List.any_eq_false] at h1
    have := h1 x hx
    simpa using this
  rw [h2]
  unfold fewB at hf
  simp only [decide_eq_true_eq] at hf
  simp [hf, keywordEach, backToKw]

section
variable {w : Wd} {T : Tab} {fuel k : Nat} {N : List Str} {ow sc : Scope} {W : WX} {X : Cx}
theorem recv_ty {m : Bm} {o : Val} {x : V} {ρ : List Addr} {σ : L2.St} {H : Hp} {S : Store} {Q : Unit → Hp → Prop} (hm : m ≠ .bitlen) (rs : RepS w ρ H S) (r : RepV w ρ H o x) (p : Post w W σ (fun _ _ _ _ => True) ρ H (recv m o S) Q) :
    L2.tyV w.K (bmTy m) x H ∧ Q () H := by
  have isD : (dicOf S o).isSome = true → L2.tyV w.K "dict" x H := by
    intro h
    unfold dicOf at h
    cases o <;> dsimp only at h <;> first | (cases h; done) | skip
    rename_i j
    simp only [RepV] at r
    obtain ⟨a, rfl, ha⟩ := r
    cases e : S[j]? with
    | none => rw [e] at h; cases h
    | some c =>
      rw [e] at h
      cases c <;> dsimp only at h <;> first | (cases h; done) | skip
      obtain ⟨vs, h1, h2⟩ := dct_at rs ha e
      exact .inr (.inr (.inl ⟨rfl, .inl ⟨vs, h1⟩⟩))
  have isS : isStrV o = true → L2.tyV w.K "str" x H := by
    intro h
    cases o <;> first | (cases h; done) | skip
    simp only [RepV] at r
    subst r
    rfl
  have isL : isLstV S o = true → L2.tyV w.K "list" x H := by
    intro h
    unfold isLstV at h
    cases o <;> dsimp only at h <;> first | (cases h; done) | skip
    rename_i j
    simp only [RepV] at r
    obtain ⟨a, rfl, ha⟩ := r
    cases e : S[j]? with
    | none => rw [e] at h; cases h
    | some c =>
      rw [e] at h
      cases c <;> dsimp only at h <;> first | (cases h; done) | skip
      obtain ⟨vs, h1, h2⟩ := lst_at rs ha e
      exact .inl ⟨rfl, vs, SqL.of h1⟩
  unfold recv at p
  by_cases c : recvB S m o = true
  · rw [if_pos c] at p
    refine ⟨?_, p.ok True.intro rs⟩
    cases m
    case bitlen => exact absurd rfl hm
    case get1 => exact isD c
    case get2 => exact isD c
    case update => exact isD c
    case join => exact isS c
    case sindex => exact isS c
    all_goals exact isL c
  · rw [if_neg c] at p
    exact p.elim
theorem de_bm (G : Good w T fuel k N ow sc W X) {m : Bm} {o e : Expr} {es : List Expr} {mo : Env → M Val} {ms : Env → M (List Val)} {apos pos : Pos} (hm : m ≠ .bitlen ∧ m ≠ .pop)
    (ho : DE w W X o mo) (hb : ∀ x p q, o = .Call (.Name x p) [] [] q → x ≠ "super") (hs : DA w W X (e :: es) ms) (hn : NoStar (e :: es)) (hf : fewB (e :: es) = true) (hl : (apos.endLine == pos.line) = true) :
    DE w W X (.Call (.Attribute o (bmName m) apos) (e :: es) [] pos) (fun env => do let x ← mo env; recv m x; let xs ← ms env; bmV m x xs) := by
  obtain ⟨to, po, qo⟩ := ho.ex
  obtain ⟨ts, ps, qs⟩ := hs.ex
  have hst := star_cons (env := X.env) (es := es) (hn e List.mem_cons_self)
  have hpl : (backTo pos (starEach es X.env)).any (·.1) = false := NoStar.any (fun x hx => hn x (List.mem_cons_of_mem _ hx)) _ _
  have hu := hu_of G.room
  have main : PE X (.Call (.Attribute o (bmName m) apos) (e :: es) [] pos) (tBM X.K (bmTy m) (rBm X.K m) to ts) := by
    cases m with
    | append => exact pe_bm PySem.F.plainAttrs_list PySem.F.slot_list_append PySem.F.type_list_append mt_append po ps (attr_base hb) (few_ok hn hf) hl hst hpl
    | popAt => exact pe_bm PySem.F.plainAttrs_list PySem.F.slot_list_pop PySem.F.type_list_pop mt_popAt po ps (attr_base hb) (few_ok hn hf) hl hst hpl
    | extend => exact pe_bm PySem.F.plainAttrs_list PySem.F.slot_list_extend PySem.F.type_list_extend mt_extend po ps (attr_base hb) (few_ok hn hf) hl hst hpl
    | insert => exact pe_bm PySem.F.plainAttrs_list PySem.F.slot_list_insert PySem.F.type_list_insert mt_insert po ps (attr_base hb) (few_ok hn hf) hl hst hpl
    | get1 => exact pe_bm PySem.F.plainAttrs_dict PySem.F.slot_dict_get PySem.F.type_dict_get (mt_get1 hu) po ps (attr_base hb) (few_ok hn hf) hl hst hpl
    | get2 => exact pe_bm PySem.F.plainAttrs_dict PySem.F.slot_dict_get PySem.F.type_dict_get (mt_get2 hu) po ps (attr_base hb) (few_ok hn hf) hl hst hpl
    | update => exact pe_bm PySem.F.plainAttrs_dict PySem.F.slot_dict_update PySem.F.type_dict_update mt_updD po ps (attr_base hb) (few_ok hn hf) hl hst hpl
    | join => exact pe_bm PySem.F.plainAttrs_str PySem.F.slot_str_join PySem.F.type_str_join mt_join po ps (attr_base hb) (few_ok hn hf) hl hst hpl
    | sindex => exact pe_bm PySem.F.plainAttrs_str PySem.F.slot_str_index PySem.F.type_str_index mt_sindex po ps (attr_base hb) (few_ok hn hf) hl hst hpl
    | pop => exact absurd rfl hm.2
    | bitlen => exact absurd rfl hm.1
  refine ⟨_, main, fun ρ σ H env S Q re rs p => ?_⟩
  refine qo ρ σ H env S _ re rs (p.bind.imp fun x H1 ⟨u, ρ1, S1, e1, r1, s1, p1⟩ => ?_)
  obtain ⟨t1, _, ρ2, S2, e2, _, s2, p2⟩ := recv_ty hm.1 s1 r1 (p1.bind (rel := fun _ _ _ _ => True))
  refine ⟨by rw [G.hK]; exact t1, ?_⟩
  refine qs ρ2 σ H1 env S2 _ (re.ext (e1.trans e2)) s2 (p2.bind.imp fun xs H2 ⟨us, ρ3, S3, e3, r3, s3, p3⟩ => ?_)
  rw [G.hK]
  exact bm_ok hm.1 ((r1.ext e2).ext e3) r3 s3 p3
theorem de_pop (G : Good w T fuel k N ow sc W X) {o : Expr} {mo : Env → M Val} {apos pos : Pos} (ho : DE w W X o mo) (hb : ∀ x p q, o = .Call (.Name x p) [] [] q → x ≠ "super") (hl : (apos.endLine == pos.line) = true) :
    DE w W X (.Call (.Attribute o "pop" apos) [] [] pos) (fun env => do let x ← mo env; recv .pop x; let xs ← (pure [] : M (List Val)); bmV .pop x xs) := by
  obtain ⟨to, po, qo⟩ := ho.ex
  refine ⟨_, pe_bm0 PySem.F.plainAttrs_list PySem.F.slot_list_pop PySem.F.type_list_pop mt_pop po (attr_base hb) hl, fun ρ σ H env S Q re rs p => ?_⟩
  refine qo ρ σ H env S _ re rs (p.bind.imp fun x H1 ⟨u, ρ1, S1, e1, r1, s1, p1⟩ => ?_)
  obtain ⟨t1, _, ρ2, S2, e2, _, s2, p2⟩ := recv_ty (m := .pop) (fun z => nomatch z) s1 r1 (p1.bind (rel := fun _ _ _ _ => True))
  exact ⟨by rw [G.hK]; exact t1, bm_ok (m := .pop) (fun z => nomatch z) (r1.ext e2) (by simp [RepVs]) s2 p2⟩
theorem de_bitlen {o : Expr} {mo : Env → M Val} {apos pos : Pos} (ho : DE w W X o mo) (hb : ∀ x p q, o = .Call (.Name x p) [] [] q → x ≠ "super") (hl : (apos.endLine == pos.line) = true) :
    DE w W X (.Call (.Attribute o "bit_length" apos) [] [] pos) (fun env => do let x ← mo env; recv .bitlen x; let xs ← (pure [] : M (List Val)); bmV .bitlen x xs) := by
  obtain ⟨to, po, qo⟩ := ho.ex
  refine ⟨_, pe_bits po (attr_base hb) hl, fun ρ σ H env S Q re rs p => ?_⟩
  refine qo ρ σ H env S _ re rs (p.bind.imp fun x H1 ⟨u, ρ1, S1, e1, r1, s1, p1⟩ => ?_)
  rw [bind_app] at p1
  unfold recv at p1
  cases u <;> simp only [recvB, isIntV] at p1 <;> first | exact p1.elim | skip
  simp only [RepV] at r1
  exact ⟨_, r1, p1.ok (by simp [RepV]) s1⟩
end
end Pd

/-! Pd, part 11: what is walked, targets, comprehensions. -/
namespace Pd
open PySem PySem.Spec L2

/-! ### one reading for every context -/
def tOf (w : Wd) (W : WX) (m : Env → M Val) : TE := fun σ H Q => ∃ ρ env S, RepE w ρ H env σ ∧ RepS w ρ H S ∧ Post w W σ (RepV w) ρ H (m env S) Q
def ttOf (w : Wd) (W : WX) (m : Env → M Bool) : TT := fun σ H Q => ∃ ρ env S, RepE w ρ H env σ ∧ RepS w ρ H S ∧ Post w W σ (fun _ _ a b => a = b) ρ H (m env S) Q
section
variable {w : Wd} {W : WX} {X : Cx} {e : Expr}
theorem DE.pe {m : Env → M Val} (h : DE w W X e m) : PE X e (tOf w W m) := by
  obtain ⟨t, pt, q⟩ := h.ex
  exact ⟨fun pins s σ H Q I ⟨ρ, env, S, r1, r2, p⟩ => pt.run pins s σ H Q I (q ρ σ H env S Q r1 r2 p)⟩
theorem DT.pt {m : Env → M Bool} (h : DT w W X e m) : PT X e (ttOf w W m) := by
  obtain ⟨t, pt, q⟩ := h.ex
  exact ⟨fun pins s σ H Q I ⟨ρ, env, S, r1, r2, p⟩ => pt.run pins s σ H Q I (q ρ σ H env S Q r1 r2 p)⟩
end

/-! ### targets -/
/-- what a target stores: other slots stay -/
structure DG (w : Wd) (X : Cx) (tg : Expr) (t : IT) : Prop where
  ex : ∃ g, PG X tg g ∧ ∀ ρ σ H env v x S env', RepE w ρ H env σ → RepV w ρ H v x → RepS w ρ H S → evT S t v env = some env' →
    ∃ σ', RepE w ρ H env' σ' ∧ σ'.length = σ.length ∧ (∀ i, i ∉ slotsT t → σ'[i]? = σ[i]?) ∧ ∀ Q : L2.St → Hp → Prop, Q σ' H → g x σ H Q
structure DGs (w : Wd) (X : Cx) (tgs : List Expr) (ts : ITs) : Prop where
  ex : ∃ g, PGs X tgs g ∧ ∀ ρ σ H env vs xs S env', RepE w ρ H env σ → RepVs w ρ H vs xs → RepS w ρ H S → evTs S ts vs env = some env' →
    ∃ σ', RepE w ρ H env' σ' ∧ σ'.length = σ.length ∧ (∀ i, i ∉ slotsTs ts → σ'[i]? = σ[i]?) ∧ xs.length = tgs.length ∧ ∀ Q : L2.St → Hp → Prop, Q σ' H → g xs σ H Q
theorem pg_either {X : Cx} {tg : Expr} {g g' : TG} (h : PG X tg g) (h' : PG X tg g') : PG X tg (fun v σ H Q => g v σ H Q ∨ g' v σ H Q) := by
  refine ⟨fun pins s σ H v u Q I r q => ?_⟩
  rcases q with q | q
  · exact h.run pins s σ H v u Q I r q
  · exact h'.run pins s σ H v u Q I r q
theorem each_len {env : PySem.Env} : ∀ {es : List Expr}, NoStar es → (assignEach es env).length = es.length ∧ (assignEach es env).findIdx? (·.1) = none
  | [], _ => ⟨rfl, rfl⟩
  | e :: es, h => by
    obtain ⟨h1, h2⟩ := each_len (env := env) (es := es) fun x hx => h x (List.mem_cons_of_mem _ hx)
    have key : assignEach (e :: es) env = (false, assign e env) :: assignEach es env := by
      cases e <;> first | rfl | exact absurd rfl (h _ List.mem_cons_self _ _)
    rw [key]
    refine ⟨by simp [h1], ?_⟩
    rw [List.findIdx?_cons, h2]
    rfl
theorem each_cons {env : PySem.Env} {e : Expr} {es : List Expr} (h : ∀ x p, e ≠ .Starred x p) : (assignEach (e :: es) env).map (·.2) = assign e env :: (assignEach es env).map (·.2) := by
  cases e <;> first | rfl | exact absurd rfl (h _ _)
section
variable {w : Wd} {T : Tab} {fuel k : Nat} {N : List Str} {ow sc : Scope} {W : WX} {X : Cx}
theorem chkT_star {t : IT} {x : Expr} {p : Pos} (h : chkT T N ow sc t (.Starred x p) = true) : False := by
  cases t <;> simp [chkT] at h
theorem chkTs_star : ∀ {ts : ITs} {es : List Expr}, chkTs T N ow sc ts es = true → NoStar es
  | .nil, [], _ => fun _ z => (List.not_mem_nil z).elim
  | .nil, _ :: _, h => by simp [chkTs] at h
  | .cons _ _, [], h => by simp [chkTs] at h
  | .cons t ts, e :: es, h => by
    simp only [chkTs, Bool.and_eq_true] at h
    intro z hz
    rcases List.mem_cons.mp hz with rfl | hz
    · intro x p q
      subst q
      exact chkT_star h.1
    · exact chkTs_star h.2 z hz
mutual
theorem dg_of (G : Good w T fuel k N ow sc W X) : ∀ (t : IT) (tg : Expr), chkT T N ow sc t tg = true → DG w X tg t
  | .name i, tg, h => by
    cases tg <;> first | (simp [chkT] at h; done) | skip
    rename_i x p
    simp only [chkT, Bool.and_eq_true, decide_eq_true_eq] at h
    obtain ⟨h1, h2⟩ := G.hst x h.2
    refine ⟨_, pg_name G.nd (by rw [G.hN]; exact h.1) h1 h2, fun ρ σ H env v x S env' re rv rs e => ?_⟩
    have e' : envSet env i v = env' := Option.some.inj (by simpa [evT] using e)
    subst e'
    refine ⟨σ.set i (some x), re.set rv i, by simp, fun j hj => ?_, fun Q q => q⟩
    rw [List.getElem?_set_ne]
    intro z
    exact hj (by simp [slotsT, z])
  | .tup ts, tg, h => by
    cases tg <;> first | (simp [chkT] at h; done) | skip
    rename_i es j p
    have h' : chkTs T N ow sc ts es = true := by simpa [chkT] using h
    obtain ⟨g, pg, q⟩ := (dgs_of G ts es h').ex
    obtain ⟨l1, l2⟩ := each_len (env := X.env) (chkTs_star h')
    refine ⟨_, pg_either (pg_tup (k := j) (pos := p) (n := es.length) G.calm pg l1 l2) (pg_unl (n := es.length) G.calm pg l1 l2), fun ρ σ H env v x S env' re rv rs e => ?_⟩
    simp only [evT] at e
    split at e
    · rename_i xs hx
      obtain ⟨a, vs, rfl, h1, h2⟩ := seq_read rs rv hx
      obtain ⟨σ', k1, k2, k3, k4, k5⟩ := q ρ σ H env xs vs S env' re h2 rs e
      refine ⟨σ', k1, k2, fun i hi => k3 i (by simpa [slotsT] using hi), fun Q hq => ?_⟩
      rw [G.hK]
      rcases h1 with h1 | h1
      · exact .inr ⟨a, vs, rfl, h1, k4, k5 Q hq⟩
      · exact .inl ⟨a, vs, rfl, h1, k4, k5 Q hq⟩
    · cases e
theorem dgs_of (G : Good w T fuel k N ow sc W X) : ∀ (ts : ITs) (es : List Expr), chkTs T N ow sc ts es = true → DGs w X es ts
  | .nil, es, h => by
    cases es with
    | cons _ _ => simp [chkTs] at h
    | nil =>
      refine ⟨_, pgs_nil, fun ρ σ H env vs xs S env' re rv rs e => ?_⟩
      cases vs with
      | cons _ _ => simp [evTs] at e
      | nil =>
        simp only [RepVs] at rv
        subst rv
        have e' : env = env' := by simpa [evTs] using e
        subst e'
        exact ⟨σ, re, rfl, fun _ _ => rfl, rfl, fun Q q => ⟨rfl, q⟩⟩
  | .cons t ts, es, h => by
    cases es with
    | nil => simp [chkTs] at h
    | cons e es =>
      have hn := chkTs_star h
      simp only [chkTs, Bool.and_eq_true] at h
      obtain ⟨g, pg, q⟩ := (dg_of G t e h.1).ex
      obtain ⟨gs, pgs, qs⟩ := (dgs_of G ts es h.2).ex
      refine ⟨_, pgs_cons pg pgs (each_cons (hn e List.mem_cons_self)), fun ρ σ H env vs xs S env' re rv rs ee => ?_⟩
      cases vs with
      | nil => simp [evTs] at ee
      | cons v vs =>
        simp only [RepVs] at rv
        obtain ⟨x, r, rfl, r1, r2⟩ := rv
        simp only [evTs] at ee
        split at ee
        · rename_i env1 e1
          obtain ⟨σ1, a1, a2, a3, a4⟩ := q ρ σ H env v x S env1 re r1 rs e1
          obtain ⟨σ2, b1, b2, b3, b4, b5⟩ := qs ρ σ1 H env1 vs r S env' a1 r2 rs ee
          refine ⟨σ2, b1, b2.trans a2, fun i hi => ?_, by simp [b4], fun Q hq => ⟨x, r, rfl, a4 _ (b5 Q hq)⟩⟩
          simp only [slotsTs, List.mem_append, not_or] at hi
          rw [b3 i hi.2, a3 i hi.1]
        · cases ee
end
end
end Pd

/-! Pd, part 12: what is walked, comprehensions. -/
namespace Pd
open PySem PySem.Spec L2

/-! ### what is walked -/
/-- list, tuple or str, by what comes -/
def iVal (K : PySem.W.Frag) (tl : TE) : TI := fun σ H R => tl σ H fun x H1 =>
  (∃ a, x = .ref a ∧ (∃ xs, SqL K H1 a xs) ∧ R (Itl K a) H1) ∨ (∃ a, x = .ref a ∧ (∃ xs, SqT K H1 a xs) ∧ R (Itt K a) H1) ∨ ∃ y, x = .str y ∧ R (Its y) H1
theorem pi_val {X : Cx} {tg l : Expr} {tl : TE} (hl : PE X l tl) : PI X tg l (iVal X.K tl) := by
  refine ⟨fun pins s σ H R I h => ?_⟩
  refine thn (hl.run pins s σ H _ I h) fun v s1 hq => ?_
  obtain ⟨x, H1, I1, r1, q | q | q⟩ := hq
  · obtain ⟨a, e, ⟨xs, hx⟩, q⟩ := q
    subst e
    cases r1
    obtain ⟨its, rv, pl, hz⟩ := I1.list hx
    exact wpAny_pyIter_list pl.isList (pi_one (tk := s1.toks) I1 _ (turn_list a _) ⟨_, Heap.get?_push_size _ rfl, rfl, rfl⟩ q)
  · obtain ⟨a, e, ⟨xs, hx⟩, q⟩ := q
    subst e
    cases r1
    obtain ⟨its, rv, pl, hz⟩ := I1.tuple hx
    exact wpAny_pyIter_tuple (show s1.heap.IsTuple a its.toArray from pl) (pi_one (tk := s1.toks) I1 _ (turn_tuple a _) ⟨_, Heap.get?_push_size _ rfl, rfl, rfl⟩ q)
  · obtain ⟨y, e, q⟩ := q
    subst e
    obtain ⟨t, rfl⟩ := r1
    cases ha : y.cps.all (· < 128)
    · exact wpAny_pyIter_wide ha (pi_one (tk := s1.toks) I1 _ (turn_str _ y t _ (.inr rfl)) ⟨_, Heap.get?_push_size _ rfl, rfl, rfl⟩ q)
    · exact wpAny_pyIter_ascii ha (pi_one (tk := s1.toks) I1 _ (turn_str _ y t _ (.inl rfl)) ⟨_, Heap.get?_push_size _ rfl, rfl, rfl⟩ q)

/-- the iterator J gives what src does, now and later -/
def SrcOk (w : Wd) (ρ : List Addr) (H : Hp) (src : Src) (J : It) : Prop := ∀ ρ' H' S', Ext ρ H ρ' H' → RepS w ρ' H' S' → ∀ k,
  (src.at S' k = some none → J.stop k H') ∧
    ∀ x, src.at S' k = some (some x) → J.go k H' ∧ ∀ v H2, J.yld k H' v H2 → Ext ρ' H' ρ' H2 ∧ RepV w ρ' H2 x v ∧ RepS w ρ' H2 S'
structure DI (w : Wd) (W : WX) (X : Cx) (tg e : Expr) (m : Env → M Src) : Prop where
  ex : ∃ t, PI X tg e t ∧ ∀ ρ σ H env S (R : It → Hp → Prop), RepE w ρ H env σ → RepS w ρ H S → Post w W σ (SrcOk w) ρ H (m env S) R → t σ H R

section
variable {w : Wd} {ρ : List Addr} {H : Hp} {S : Store}
theorem src_tup {a : Addr} {xs : List Val} {vs : List V} (h : StT w ρ H a vs) (r : RepVs w ρ H xs vs) : SrcOk w ρ H (.stat xs) (Itt w.K a) := by
  intro ρ' H' S' e rs k
  have h' := (h.ext e).sq
  have r' := r.ext e
  refine ⟨fun q => ⟨vs, h', ?_⟩, fun x q => ?_⟩
  · have q : xs[k]? = none := Option.some.inj q
    rw [r.length]
    exact List.getElem?_eq_none_iff.mp q
  · have q : xs[k]? = some x := Option.some.inj q
    obtain ⟨v, h1, h2⟩ := r'.get q
    refine ⟨⟨vs, v, h', h1⟩, fun u H2 y => ?_⟩
    obtain ⟨rfl, y⟩ := y
    have e := y vs h'
    rw [h1] at e
    cases e
    exact ⟨Ext.refl _ _, h2, rs⟩
theorem src_scr {a : Addr} {ns : List Int} (h : StL w ρ H a (ns.map V.int)) : SrcOk w ρ H (.stat (ns.map .int)) (Itl w.K a) := by
  intro ρ' H' S' e rs k
  have h' := (h.ext e).sq
  have r' : RepVs w ρ' H' (ns.map .int) (ns.map V.int) := RepVs.ints ns
  refine ⟨fun q => ⟨_, h', ?_⟩, fun x q => ?_⟩
  · have q : (ns.map Val.int)[k]? = none := Option.some.inj q
    rw [r'.length]
    exact List.getElem?_eq_none_iff.mp q
  · have q : (ns.map Val.int)[k]? = some x := Option.some.inj q
    obtain ⟨v, h1, h2⟩ := r'.get q
    refine ⟨⟨_, v, h', h1⟩, fun u H2 y => ?_⟩
    obtain ⟨rfl, y⟩ := y
    have e := y _ h'
    rw [h1] at e
    cases e
    exact ⟨Ext.refl _ _, h2, rs⟩
theorem src_lst {a : Addr} {i : Nat} (h : ρ[i]? = some a) : SrcOk w ρ H (.dyn i) (Itl w.K a) := by
  intro ρ' H' S' e rs k
  have ha : ρ'[i]? = some a := by
    obtain ⟨m, rfl, _⟩ := e.pre
    rw [List.getElem?_append_left (List.getElem?_eq_some_iff.mp h).1]; exact h
  have rd : ∀ o, (Src.dyn i).at S' k = some o → ∃ xs vs, S'[i]? = some (.lst xs) ∧ H' a = some (.lst vs) ∧ RepVs w ρ' H' xs vs ∧ xs[k]? = o := by
    intro o q
    unfold Src.at at q
    dsimp only at q
    split at q
    · rename_i xs hx
      obtain ⟨vs, h1, h2⟩ := lst_at rs ha hx
      exact ⟨xs, vs, hx, h1, h2, Option.some.inj q⟩
    · cases q
  refine ⟨fun q => ?_, fun x q => ?_⟩
  · obtain ⟨xs, vs, h1, h2, h3, h4⟩ := rd _ q
    exact ⟨vs, SqL.of h2, by rw [h3.length]; exact List.getElem?_eq_none_iff.mp h4⟩
  · obtain ⟨xs, vs, h1, h2, h3, h4⟩ := rd _ q
    obtain ⟨v, h5, h6⟩ := h3.get h4
    refine ⟨⟨vs, v, SqL.of h2, h5⟩, fun u H2 y => ?_⟩
    obtain ⟨rfl, y⟩ := y
    have e := y vs (SqL.of h2)
    rw [h5] at e
    cases e
    exact ⟨Ext.refl _ _, h6, rs⟩
theorem src_str {y : Str} : SrcOk w ρ H (.stat (signs y)) (Its y) := by
  intro ρ' H' S' e rs k
  have hk : (signs y)[k]? = (y.cps[k]?).map fun c => .str ⟨#[c]⟩ := by
    unfold signs
    rw [List.getElem?_map, Array.getElem?_toList]
  refine ⟨fun q => ?_, fun x q => ?_⟩
  · have q : (signs y)[k]? = none := Option.some.inj q
    rw [hk] at q
    cases z : y.cps[k]? with
    | none => exact Array.getElem?_eq_none_iff.mp z
    | some c => rw [z] at q; cases q
  · have q : (signs y)[k]? = some x := Option.some.inj q
    rw [hk] at q
    cases z : y.cps[k]? with
    | none => rw [z] at q; cases q
    | some c =>
      rw [z] at q
      refine ⟨(Array.getElem?_eq_some_iff.mp z).1, fun u H2 yl => ?_⟩
      obtain ⟨rfl, c', h1, rfl⟩ := yl
      rw [z] at h1
      cases h1
      have e : x = .str ⟨#[c]⟩ := (Option.some.inj q).symm
      subst e
      exact ⟨Ext.refl _ _, by simp [RepV], rs⟩
theorem src_range {lo : Int} {n : Nat} : SrcOk w ρ H (.stat (upTo lo n)) (Itr lo n) := by
  intro ρ' H' S' e rs k
  have hk : (upTo lo n)[k]? = if k < n then some (.int (lo + (k : Nat))) else none := by
    unfold upTo
    rw [List.getElem?_map]
    by_cases c : k < n
    · rw [if_pos c, List.getElem?_range c]; rfl
    · rw [if_neg c, List.getElem?_eq_none (by simpa using c)]; rfl
  refine ⟨fun q => ?_, fun x q => ?_⟩
  · have q : (upTo lo n)[k]? = none := Option.some.inj q
    rw [hk] at q
    split at q
    · cases q
    · show n ≤ k; omega
  · have q : (upTo lo n)[k]? = some x := Option.some.inj q
    rw [hk] at q
    split at q
    · rename_i c
      refine ⟨c, fun u H2 yl => ?_⟩
      obtain ⟨rfl, rfl⟩ := yl
      have e := Option.some.inj q
      subst e
      exact ⟨Ext.refl _ _, by simp [RepV], rs⟩
    · cases q
end

section
variable {w : Wd} {T : Tab} {fuel k : Nat} {N : List Str} {ow sc : Scope} {W : WX} {X : Cx} {tg : Expr}
theorem di_val (G : Good w T fuel k N ow sc W X) {e : Expr} {m : Env → M Val} (h : DE w W X e m) : DI w W X tg e (fun env => do let x ← m env; srcV x) := by
  obtain ⟨t, pt, q⟩ := h.ex
  refine ⟨_, pi_val pt, fun ρ σ H env S R re rs p => ?_⟩
  refine q ρ σ H env S _ re rs (p.bind.imp fun x H1 ⟨u, ρ1, S1, e1, r1, s1, p1⟩ => ?_)
  unfold srcV at p1
  rw [G.hK]
  cases u <;> dsimp only at p1 <;> first | exact p1.elim | skip
  · simp only [RepV] at r1
    exact .inr (.inr ⟨_, r1, p1.ok src_str s1⟩)
  · simp only [RepV] at r1
    obtain ⟨a, vs, rfl, h1, h2⟩ := r1
    exact .inr (.inl ⟨a, rfl, ⟨vs, h1.sq⟩, p1.ok (src_tup h1 h2) s1⟩)
  · simp only [RepV] at r1
    obtain ⟨a, rfl, h1⟩ := r1
    exact .inl ⟨a, rfl, ⟨_, h1.sq⟩, p1.ok (src_scr h1) s1⟩
  · simp only [RepV] at r1
    obtain ⟨a, rfl, h1⟩ := r1
    split at p1
    · rename_i xs hx
      obtain ⟨vs, h2, h3⟩ := lst_at s1 h1 hx
      exact .inl ⟨a, rfl, ⟨vs, SqL.of h2⟩, p1.ok (src_lst h1) s1⟩
    · exact p1.elim
theorem di_range1 (G : Good w T fuel k N ow sc W X) {e : Expr} {m : Env → M Val} {p pos : Pos} (hg : glB sc "range" = true) (hm : ("range" : Str) ∈ T.blts) (hs : ∀ x p, e ≠ .Starred x p) (h : DE w W X e m) :
    DI w W X tg (.Call (.Name "range" p) [e] [] pos) (fun env => do
      let x ← m env
      match x with
      | .int i => rangeV 0 i
      | _ => stuck) := by
  obtain ⟨t, pt, q⟩ := h.ex
  refine ⟨_, pi_range1 (gl_of G hg) (G.blts _ hm) (pa_cons pt pa_nil (star_cons hs)) (star_cons hs), fun ρ σ H env S R re rs p => ?_⟩
  refine q ρ σ H env S _ re rs (p.bind.imp fun x H1 ⟨u, ρ1, S1, e1, r1, s1, p1⟩ => ?_)
  cases u <;> dsimp only at p1 <;> first | exact p1.elim | skip
  rename_i i
  simp only [RepV] at r1
  subst r1
  unfold rangeV at p1
  split at p1
  · rename_i hz
    simp only [Bool.and_eq_true, decide_eq_true_eq] at hz
    refine ⟨i, rfl, hz.1.2, hz.2, ?_⟩
    have := p1.ok (src_range (w := w) (ρ := ρ1) (H := H1)) s1
    simpa using this
  · exact p1.elim
theorem di_range2 (G : Good w T fuel k N ow sc W X) {e e' : Expr} {m m' : Env → M Val} {p pos : Pos} (hg : glB sc "range" = true) (hm : ("range" : Str) ∈ T.blts) (hs : ∀ x p, e ≠ .Starred x p) (hs' : ∀ x p, e' ≠ .Starred x p) (h : DE w W X e m) (h' : DE w W X e' m') :
    DI w W X tg (.Call (.Name "range" p) [e, e'] [] pos) (fun env => do
      let x ← m env
      let y ← m' env
      match x, y with
      | .int i, .int j => rangeV i j
      | _, _ => stuck) := by
  obtain ⟨t, pt, q⟩ := h.ex
  obtain ⟨t', pt', q'⟩ := h'.ex
  refine ⟨_, pi_range2 (gl_of G hg) (G.blts _ hm) (pa_cons pt (pa_cons pt' pa_nil (star_cons hs')) (star_cons hs)) (by rw [star_cons hs, star_cons hs']; rfl) (star_cons hs'), fun ρ σ H env S R re rs p => ?_⟩
  refine q ρ σ H env S _ re rs (p.bind.imp fun x H1 ⟨u, ρ1, S1, e1, r1, s1, p1⟩ => ?_)
  refine q' ρ1 σ H1 env S1 _ (re.ext e1) s1 (p1.bind.imp fun y H2 ⟨v, ρ2, S2, e2, r2, s2, p2⟩ => ?_)
  cases u <;> cases v <;> dsimp only at p2 <;> first | exact p2.elim | skip
  simp only [RepV] at r1 r2
  subst r1 r2
  unfold rangeV at p2
  split at p2
  · rename_i hz
    simp only [Bool.and_eq_true, decide_eq_true_eq] at hz
    refine ⟨_, _, rfl, ⟨hz.1.1.1, hz.1.1.2, hz.1.2, hz.2⟩, p2.ok src_range s2⟩
  · exact p2.elim

end

/-! ### comprehensions -/
section
variable {w : Wd} {T : Tab} {fuel k : Nat} {N : List Str} {ow sc : Scope} {W : WX} {X : Cx} {tg : Expr}
def WF : WX := fun _ _ _ _ => False
theorem wipe_eq {σ σ' : L2.St} {is : List Nat} (hl : σ'.length = σ.length) : ∀ {own : List Nat}, (∀ i, i ∉ is → σ'[i]? = σ[i]?) → (∀ i ∈ is, i ∈ own) → wipe σ' own = wipe σ own := by
  intro own h ho
  apply List.ext_getElem?
  intro i
  by_cases c : i ∈ own
  · have key : ∀ (τ : L2.St) (vs : List Nat), i ∈ vs → (wipe τ vs)[i]? = if i < τ.length then some none else none := by
      intro τ vs
      induction vs with
      | nil => intro z; cases z
      | cons v vs ih =>
        intro z
        unfold wipe
        by_cases hv : v = i
        · subst hv
          by_cases hl : v < τ.length
          · rw [if_pos hl, List.getElem?_set_self (by rw [wipe_length]; exact hl)]
          · rw [if_neg hl, List.getElem?_eq_none (by rw [List.length_set, wipe_length]; omega)]
        · rw [List.getElem?_set_ne hv]
          rcases List.mem_cons.mp z with z | z
          · exact absurd z.symm hv
          · exact ih z
    rw [key _ _ c, key _ _ c, hl]
  · rw [wipe_out c, wipe_out c]
    exact h i fun z => c (ho i z)
theorem good_blk (G : Good w T fuel k N ow sc W X) (s : Shared) (H : Hp) (scope : Scope) (cl : List (Str × Addr)) (C : Addr) (fp : List Addr) :
    Good w T fuel k N scope (relS scope sc) WF (X.blk s H scope (compEnvC scope cl C X.env) fp) where
  hN := G.hN
  nd := G.nd
  hsc := by rw [← G.hsc]; rfl
  hK := G.hK
  calm := G.calm
  room := G.room
  grd := G.grd
  tk := fun u s' h => by
    obtain ⟨_, _, _, _, _, _, _, _, _, _, _, _, _, _, _, _, h⟩ := h
    exact h.elim
  hst := fun x h => by
    unfold stB at h
    have e : (X.blk s H scope (compEnvC scope cl C X.env) fp).env.scope = relS scope sc := by rw [← G.hsc]; rfl
    rw [e]
    split at h
    · rename_i q
      exact ⟨.inl q, .inr q⟩
    · rename_i q
      split at h
      · rename_i q2
        exact ⟨.inr q, .inl (by show (scope.names.lookup x == some NameKind.cell) = true; rw [q2]; rfl)⟩
      · cases h
    · cases h
  fns := G.fns
  globs := G.globs
  blts := G.blts
  cls := G.cls
  isi := G.isi
theorem pts_of {ifs : List Expr} {mk : Env → M Bool} (h : (ifs = [] ∧ mk = fun _ => pure true) ∨ ∃ c, ifs = [c] ∧ DT w W X c mk) : PTs X ifs (ttOf w W mk) := by
  rcases h with ⟨rfl, rfl⟩ | ⟨c, rfl, h⟩
  · refine ⟨fun pins s σ H Q I hq => pts_nil.run pins s σ H Q I ?_⟩
    obtain ⟨ρ, env, S, _, rs, p⟩ := hq
    exact p.ok rfl rs
  · exact pts_one h.pt
def Res.onOk {α β : Type} (r : Res α) (f : α → Store → Res β) : Res β := match r with
  | .ok a S => f a S
  | _ => .bad
theorem noExc_bind {α β : Type} (m : M α) (f : α → M β) (S : Store) : (noExc m >>= f) S = (m S).onOk f := by
  rw [bind_app]
  unfold noExc Res.onOk
  cases m S <;> rfl
theorem compLoop_eq (src : Src) (put : Store → Val → Option Env) (keep : Env → M Bool) (elt : Env → M Val) (m i : Nat) (acc : List Val) (S : Store) : compLoop src put keep elt m i acc S = match src.at S i with
    | none => .bad
    | some none => .ok acc S
    | some (some x) => match m with
      | 0 => .bad
      | n + 1 => match put S x with
        | none => .bad
        | some env => (keep env >>= fun c => if c then (elt env >>= fun v => need (decide (acc.length < sizeMax)) >>= fun _ => compLoop src put keep elt n (i + 1) (acc ++ [v]))
            else compLoop src put keep elt n (i + 1) acc) S := by
  cases m <;> (conv => lhs; unfold compLoop) <;> cases src.at S i with | none => rfl | some o => cases o <;> rfl
/-- what a target stores, one reading for every context -/
def gOf (w : Wd) (t : IT) : TG := fun v σ H Q => ∃ ρ S env env' x, RepE w ρ H env σ ∧ RepV w ρ H x v ∧ RepS w ρ H S ∧ evT S t x env = some env' ∧ ∀ σ', RepE w ρ H env' σ' → σ'.length = σ.length → (∀ i, i ∉ slotsT t → σ'[i]? = σ[i]?) → Q σ' H
theorem pg_of (G : Good w T fuel k N ow sc W X) {t : IT} (ht : chkT T N ow sc t tg = true) : PG X tg (gOf w t) := by
  obtain ⟨g, pg, qg⟩ := (dg_of G t tg ht).ex
  refine ⟨fun pins s' σ H v u Q I r ⟨ρ, S, env, env', x, r1, r2, r3, r4, hq⟩ => pg.run pins s' σ H v u Q I r ?_⟩
  obtain ⟨σ', a1, a2, a3, a4⟩ := qg ρ σ H env x v S env' r1 r2 r3 r4
  exact a4 _ (hq σ' a1 a2 a3)
def compM (mi : Env → M Src) (own : List Nat) (t : IT) (mk : Env → M Bool) (me : Env → M Val) : Env → M Val := fun env => do
  let src ← mi env
  let env' := envDels env own
  let xs ← noExc fun S => compLoop src (fun S x => evT S t x env') mk me (src.len S) 0 [] S
  alloc (.lst xs)
theorem lc_ok {own : List Nat} {t : IT} {mi : Env → M Src} {mk : Env → M Bool} {me : Env → M Val} {ti : TI}
    (ho : ∀ i ∈ slotsT t, i ∈ own) (qi : ∀ ρ σ H env S (R : It → Hp → Prop), RepE w ρ H env σ → RepS w ρ H S → Post w W σ (SrcOk w) ρ H (mi env S) R → ti σ H R)
    {ρ : List Addr} {σ : L2.St} {H : Hp} {env : Env} {S : Store} {Q : VK} (re : RepE w ρ H env σ) (rs : RepS w ρ H S) (p : Post w W σ (RepV w) ρ H (compM mi own t mk me env S) Q) :
    tLc ti (gOf w t) (ttOf w WF mk) (tOf w WF me) own σ H Q := by
  unfold compM at p
  refine qi ρ σ H env S _ re rs (p.bind.imp fun J H1 ⟨src, ρ1, S1, e1, r1, s1, p1⟩ D hD => ?_)
  have re1 := (re.ext e1).dels own
  have p1 := (congrArg (fun r => Post w W σ (RepV w) ρ1 H1 r Q) (noExc_bind (fun S => compLoop src (fun S x => evT S t x (envDels env own)) mk me (src.len S) 0 [] S) (fun xs => alloc (.lst xs)) S1)).mp p1
  generalize envDels env own = env' at p1 re1
  refine ⟨fun i m H' => ∃ ρk Sk acc vs, Ext ρ1 H1 ρk H' ∧ RepS w ρk H' Sk ∧ D ∉ ρk ∧ H' D = some (.lst vs) ∧ RepVs w ρk H' acc vs ∧
    Post w W σ (RepV w) ρ1 H1 ((compLoop src (fun S x => evT S t x env') mk me m i acc Sk).onOk fun xs => alloc (.lst xs)) Q, ⟨src.len S1, ρ1, S1, [], [], Ext.new s1 hD, s1.new hD, s1.none_out hD, upd_same, by simp [RepVs], p1⟩, ?_⟩
  rintro i m H2 ⟨ρk, Sk, acc, vs, ek, sk, nD, hDk, rk, pk⟩
  rw [compLoop_eq] at pk
  obtain ⟨go1, go2⟩ := r1 ρk H2 Sk ek sk i
  cases qa : src.at Sk i with
  | none => rw [qa] at pk; exact pk.elim
  | some o =>
    rw [qa] at pk
    cases o with
    | none =>
      refine .inl ⟨go1 qa, ?_⟩
      dsimp only at pk
      refine pk (.ref D) (ρk ++ [D]) H2 (ek.adopt hD) ?_ (sk.adopt hDk bare_lst nD ⟨_, rfl, rk⟩)
      · simp only [RepV]
        exact ⟨D, rfl, by rw [← sk.len]; simp⟩
    | some x =>
      obtain ⟨go, gy⟩ := go2 x qa
      dsimp only at pk
      cases m with
      | zero => exact pk.elim
      | succ n =>
        dsimp only at pk
        cases qp : evT Sk t x env' with
        | none => rw [qp] at pk; exact pk.elim
        | some env2 =>
          rw [qp] at pk
          refine .inr ⟨go, _, fun H' nx => ⟨n, Nat.lt_succ_self n, nx⟩, fun v H3 yl => ?_⟩
          obtain ⟨ey, rv, sy⟩ := gy v H3 yl
          have ek3 := ek.trans ey
          have hD3 := ey.oth D _ hDk nD
          refine ⟨ρk, Sk, env', env2, x, re1.ext ek3, rv, sy, qp, fun σ2 re2 hl hσ => ⟨(wipe_eq hl hσ ho).trans (wipe_eq (is := own) (wipe_length _ _) (fun i hi => wipe_out hi) fun i hi => hi), ρk, env2, Sk, re2, sy, ?_⟩⟩
          dsimp only at pk
          rw [bind_app] at pk
          cases qk : mk env2 Sk with
          | bad => rw [qk] at pk; exact pk.elim
          | exc y S' => rw [qk] at pk; exact pk.elim
          | ok c S2 =>
            rw [qk] at pk
            dsimp only at pk
            refine fun b ρ4 H4 e4 hb s4 => ?_
            subst hb
            have hD4 := e4.oth D _ hD3 nD
            have nD4 := e4.out hD3 nD
            have ek4 := ek3.trans e4
            cases c with
            | false =>
              rw [if_neg Bool.false_ne_true] at pk ⊢
              exact ⟨ρ4, S2, acc, vs, ek4, s4, nD4, hD4, (rk.ext ey).ext e4, pk⟩
            | true =>
              rw [if_pos rfl] at pk ⊢
              refine ⟨ρ4, env2, S2, re2.ext e4, s4, ?_⟩
              rw [bind_app] at pk
              cases qe : me env2 S2 with
              | bad => rw [qe] at pk; exact pk.elim
              | exc y S' => rw [qe] at pk; exact pk.elim
              | ok u S3 =>
                rw [qe] at pk
                dsimp only at pk
                refine fun y ρ5 H5 e5 ry s5 => ?_
                have hD5 := e5.oth D _ hD4 nD4
                have nD5 := e5.out hD4 nD4
                have ek5 := ek4.trans e5
                rw [bind_app, need_app] at pk
                by_cases hz : acc.length < sizeMax
                · rw [if_pos (by simpa using hz)] at pk
                  dsimp only at pk
                  have rk5 := ((rk.ext ey).ext e4).ext e5
                  refine ⟨vs, hD5, by rw [rk5.length, ← size_eq]; exact hz, ρ5, S3, acc ++ [u], vs ++ [y], ek5.own hD _, s5.own hD5 bare_lst nD5, nD5, upd_same, (rk5.append (by simp only [RepVs]; exact ⟨y, [], rfl, ry, rfl⟩)).own hD5 bare_lst, pk⟩
                · rw [if_neg (by simpa using hz)] at pk
                  exact pk.elim
/-- a comprehension -/
theorem de_comp (G : Good w T fuel k N ow sc W X) {elt tg iter : Expr} {ifs : List Expr} {scope : Scope} {own : List (Str × Nat)} {pos : Pos} {t : IT} {mi : Env → M Src} {mk : Env → M Bool} {me : Env → M Val}
    (ok : BlkOk N sc scope own) (hi : DI w W X tg iter mi) (ht : chkT T N scope (relS scope sc) t tg = true) (ho : ∀ i ∈ slotsT t, i ∈ own.map (·.2))
    (hk : ∀ X', Good w T fuel k N scope (relS scope sc) WF X' → (ifs = [] ∧ mk = fun _ => pure true) ∨ ∃ c, ifs = [c] ∧ DT w WF X' c mk) (he : ∀ X', Good w T fuel k N scope (relS scope sc) WF X' → DE w WF X' elt me)
    (hs : ∀ x, foldedSetIterable iter X.env x = pure x) :
    DE w W X (.ListComp elt [⟨tg, iter, ifs, 0⟩] scope pos) (compM mi (own.map (·.2)) t mk me) := by
  obtain ⟨ti, pi, qi⟩ := hi.ex
  have B := fun s H C cl fp => good_blk G s H scope cl C fp
  exact ⟨_, pe_lc (g := gOf w t) (tt := ttOf w WF mk) (te := tOf w WF me) G.calm G.nd pi (by rw [G.hN, G.hsc]; exact ok) (fun s H C cl fp => pg_of (B s H C cl fp) ht)
    (fun s H C cl fp => pts_of (hk _ (B s H C cl fp))) (fun s H C cl fp => (he _ (B s H C cl fp)).pe) hs, fun ρ σ H env S Q re rs p => lc_ok ho qi re rs p⟩
end
end Pd

/-! Pd: enumerate over a list or a tuple; a range downwards. -/
namespace Pd
open PySem PySem.Spec L2

set_option maxHeartbeats 1000000 in
theorem meets_enum1 {v : Value} {o : Obj} {C : Heap → Prop} (B : Begins v o C) :
    Meets (Builtin.«enumerate.__new__» ⟨[.type "enumerate", v], []⟩) (fun _ R s => C s.heap ∧
      R (.ok (.ret (.ref (s.heap.push o).objs.size))) { s with heap := (s.heap.push o).push { cls := .type "enumerate", data := .fields #[.none, .bool false, .ref s.heap.objs.size, rawInt 0, .none, .none] } }) :=
  .of_wp fun prog w A R s h => by
    obtain ⟨hp, g, d, tk, os⟩ := s
    obtain ⟨h1, h⟩ := h
    have hsub := sub_enumerate
    have q1 : ∀ {A' : Around} {E : Value → Shared → Prop} {Q : Value → Shared → Prop}, Q (.ref hp.objs.size) ⟨hp.push o, g, d, tk, os⟩ → wpAny (model prog w) A' (pyIter v) Q E ⟨hp, g, d, tk, os⟩ := fun q => B.iter prog w _ _ ⟨hp, g, d, tk, os⟩ _ h1 q
    wp_walk using q1
    refine wpAny_stack_any fun st => wpAny_pure ?_
    split
    · rename_i c _ _ _ _ _
      cases (c == Value.type "enumerate")
      · wp_walk using q1
        exact ⟨_, rfl, h⟩
      · wp_walk using q1
        exact ⟨_, rfl, h⟩
    · wp_walk using q1
      exact ⟨_, rfl, h⟩
section
variable {prog : Program} {w : World} {A : Around} {E : Value → Shared → Prop} {s : Shared}
/-- enumerate(v): its two cells -/
theorem call_enum1 {v : Value} {o : Obj} {C : Heap → Prop} {Q : Value → Shared → Prop} (B : Begins v o C) (h1 : C s.heap)
    (h : ∀ h', IsEnum h' (s.heap.objs.size + 1) s.heap.objs.size 0 .none → h'.get? s.heap.objs.size = some o → (∀ b u, s.heap.get? b = some u → h'.get? b = some u) → Q (.ref (s.heap.objs.size + 1)) { s with heap := h' }) :
    wpAny (model prog w) A (call (.type "enumerate") [v]) Q E s := by
  refine callType_new F.called_enumerate (by decide) (F.typeCall_enumerate_1 _) (F.newCall_enumerate_1 _) (fun obj => F.args_object_init_2 obj _) F.entry_enumerate_new (meets_enum1 B) ⟨h1, ?_⟩
  have hz : (s.heap.push o).objs.size = s.heap.objs.size + 1 := Heap.size_push ..
  have he : IsEnum ((s.heap.push o).push { cls := .type "enumerate", data := .fields #[.none, .bool false, .ref s.heap.objs.size, rawInt 0, .none, .none] }) (s.heap.objs.size + 1) s.heap.objs.size 0 .none := by
    have z := Heap.get?_push_size (s.heap.push o) (o := { cls := .type "enumerate", data := .fields #[.none, .bool false, .ref s.heap.objs.size, rawInt 0, .none, .none] }) rfl
    rw [hz] at z
    exact z
  show _ ∧ _
  rw [hz]
  exact ⟨⟨_, he, rfl⟩, h _ he (Heap.get?_push_of_some _ (Heap.get?_push_size _ B.free)) fun b u x => Heap.get?_push_of_some _ (Heap.get?_push_of_some _ x)⟩
end

/-! ### the pairs of a tuple -/
/-- the tuple at a, each item in a new pair -/
def IteT (K : PySem.W.Frag) (a : Addr) : It :=
  ⟨fun i H => ∃ (xs : List V) (x : V), SqT K H a xs ∧ xs[i]? = some x, fun i H v H' => ∃ T x, v = .ref T ∧ H T = none ∧ H' = upd H T (.tup [.int (i : Nat), x]) ∧ ∀ xs, SqT K H a xs → xs[i]? = some x, fun i H => ∃ xs : List V, SqT K H a xs ∧ xs.length ≤ i⟩
theorem tup_not_it {h : Heap} {a it : Addr} {i : Nat} {items : Array Value} (h1 : h.IsTupleIter it a i) (h2 : h.IsTuple a items) : a ≠ it := fun z => by
  subst z
  obtain ⟨o, e, c, _⟩ := h1
  obtain ⟨o', e', c', _⟩ := h2
  rw [e] at e'
  cases e'
  rw [c] at c'
  exact absurd c' (by decide)
theorem tup_not_en {h : Heap} {a e it : Addr} {i : Int} {old : Value} {items : Array Value} (h1 : IsEnum h e it i old) (h2 : h.IsTuple a items) : a ≠ e := fun z => by
  subst z
  obtain ⟨o', e', c', _⟩ := h2
  have h1 : h.get? a = some _ := h1
  rw [h1] at e'
  cases e'
  have c2 : Value.type "enumerate" = .type "tuple" := c'
  exact absurd c2 (by decide)
/-- an iterator that has come to its end -/
theorem spent {prog : Program} {w : World} {A : Around} (hh : A.handled = none) (it a : Addr) (hne : a ≠ it) (items : Array Value) (i : Nat) (hi : items.size ≤ i) :
    Draws prog w A it [it, a] i (fun _ _ => False) (fun j h => h.IsTupleIter it a j ∧ h.IsTuple a items ∧ j = i) where
  live := fun j h st => let ⟨o, ho, _⟩ := st.1; ⟨o, ho⟩
  frame := fun j h h' st hk => ⟨st.1.at fun o e => hk it (by simp) o e, st.2.1.at fun o e => hk a (by simp) o e, st.2.2⟩
  item := fun j s Q E hj st hQ => absurd st.2.2 (Nat.ne_of_lt hj)
  done := fun s Q E st hE => wpAny_nextOf_tuple_end hh st.1 st.2.1 (Array.getElem?_eq_none hi) hE
theorem turn_enumT {P : Program} {w : World} {K : PySem.W.Frag} {elts : List Expr} {kk : Nat} {tpos : Pos} (a e it : Addr) :
    Turn P w K (.Tuple elts kk tpos) (IteT K a) [e, it] e (fun i h => (∃ old, IsEnum h e it ((i : Nat) : Int) old) ∧ h.IsTupleIter it a i ∧ e ≠ it) where
  mem := by simp
  obj := fun i h st b hb => by
    obtain ⟨⟨old, he⟩, ⟨o, ho, hc, hd⟩, _⟩ := st
    have e' : b = e ∨ b = it := by simpa using hb
    rcases e' with z | z
    · rw [z]; exact ⟨_, he, fun v q => nomatch q⟩
    · rw [z]; exact ⟨o, ho, fun v q => by rw [hd] at q; cases q⟩
  keep := fun i h h' st k => let ⟨⟨old, he⟩, hi, hne⟩ := st; ⟨⟨old, k e (by simp) _ he⟩, hi.at fun o q => k it (by simp) o q, hne⟩
  item := by
    intro X hP hw hK hc i pins s σ H E I hf st hg
    subst hP hw hK
    obtain ⟨⟨old, he⟩, hit, hne⟩ := st
    obtain ⟨xs, x, hq, hx⟩ := hg
    obtain ⟨its, rv, p, hz⟩ := I.tuple hq
    obtain ⟨u, hu, ru⟩ := rv.get hx
    have hT : s.heap.IsTuple a its.toArray := p
    have hai := tup_not_it hit hT
    have hae := tup_not_en he hT
    have hel : e < s.heap.objs.size := Heap.lt_size he
    have hil : it < s.heap.objs.size := by obtain ⟨_, q, _⟩ := hit; exact Heap.lt_size q
    have hlt : i < its.toArray.size := by
      have := (List.getElem?_eq_some_iff.mp hu).1
      simpa using this
    have D := Draws.tuple (prog := X.prog) (w := X.w) (A := X.A.in1) (I.ok.hd hc) it a hai its.toArray
    refine wpAny_pyNext_enum_itemD D he ⟨hit, hT⟩ hlt hne (by simp [hne, hae.symm]) fun x' h' tk hx' ho st' hT' hsz hk => ?_
    have ex : x' = u := by
      have h1 : its.toArray[i]? = some x' := hx'
      have h2 : its.toArray[i]? = some u := by simpa using hu
      rw [h2] at h1
      exact (Option.some.inj h1).symm
    subst ex
    refine ⟨_, rfl, wpAny_letOwnedTupleGo_enum (s := { s with heap := h', toks := tk + 1 }) ho fun h'' he' sb => ?_⟩
    have hT2 : h''.get? s.heap.objs.size = some { cls := .type "tuple", data := .seq #[.int i tk, x'] } := (sb.2 _ (Nat.ne_of_gt hel)).trans hT'
    have new : ObjOk X.prog X.w (upd H s.heap.objs.size (.tup [.int (i : Nat), x])) h'' s.heap.objs.size (.tup [.int (i : Nat), x]) :=
      ⟨by show 2 ≤ sizeLine; decide, [.int i tk, x'], .cons ⟨_, rfl⟩ (.cons ru .nil), ⟨_, hT2, rfl, _, rfl⟩⟩
    have I1 : Inv X pins σ (upd H s.heap.objs.size (.tup [.int (i : Nat), x])) { s with heap := h'', toks := tk + 1 } :=
      I.turnedNew (ch := [e, it]) (fun b ob hb q => (sb.2 b (fun z => hb (by simp [z]))).trans (hk b ob (fun z => hb (by simp [z])) (fun z => hb (by simp [z])) q)) hf (Nat.le_refl _) new
    refine ⟨.ref s.heap.objs.size, _, I1, rfl, ⟨_, x, rfl, I.hok.fresh (Nat.le_refl _), rfl, fun ys hy => by rw [I.tuple_inj hy hq]; exact hx⟩, ⟨⟨x', ?_⟩, st'.1.at fun o q => (sb.2 it (Ne.symm hne)).trans q, hne⟩, fun b hb => ?_⟩
    · have e1 : ((i + 1 : Nat) : Int) = (i : Int) + 1 := by omega
      rw [e1]; exact he'
    · have hb' : b < s.heap.objs.size := by
        have e' : b = e ∨ b = it := by simpa using hb
        rcases e' with z | z
        · rw [z]; exact hel
        · rw [z]; exact hil
      rw [upd_ne (Nat.ne_of_lt hb')]
      exact (hf b hb).1
  done := by
    intro X hP hw hK hc i pins s σ H E I hf st hg
    subst hP hw hK
    obtain ⟨⟨old, he⟩, hit, hne⟩ := st
    obtain ⟨xs, hq, hx⟩ := hg
    obtain ⟨its, rv, p, hz⟩ := I.tuple hq
    obtain ⟨f0, f1, f2, f3, f4, f5⟩ := hf it (by simp)
    have hT : s.heap.IsTuple a its.toArray := p
    have hl := rv.length
    have D := spent (prog := X.prog) (w := X.w) (A := X.A.in1) (I.ok.hd hc) it a (tup_not_it hit hT) its.toArray i (by simp; omega)
    exact wpAny_pyNext_enum_endD D he ⟨hit, hT, rfl⟩ fun h' eb => ⟨rfl, I.turned (t' := s.toks) (fun b o hb q => eb b o hb q) f0 f1 f3 f4 f5⟩
  self := fun A i s Q E st h => let ⟨⟨_, he⟩, _⟩ := st; wpAny_pyIter_enum he h
def iEnumA (K : PySem.W.Frag) (ta : TA) : TI := fun σ H R => ta σ H fun vs H1 => ∃ a xs, vs = [.ref a] ∧ ((SqL K H1 a xs ∧ R (Ite K a) H1) ∨ (SqT K H1 a xs ∧ R (IteT K a) H1))
theorem pi_enumA {X : Cx} {e : Expr} {ta : TA} {p pos tpos : Pos} {elts : List Expr} {kk : Nat} (hg : Gl X "enumerate") (hm : X.mg "enumerate" = none) (ha : PA X [e] ta) (hs : starEach [e] X.env = [(false, eval e X.env)]) :
    PI X (.Tuple elts kk tpos) (.Call (.Name "enumerate" p) [e] [] pos) (iEnumA X.K ta) := by
  refine ⟨fun pins s σ H R I h => ?_⟩
  refine PyProof.Rows.Call_ (ld_blt I hg hm PyProof.Rows.boot_enumerate (PyProof.Rows.callWith_type1 (thn (ha.run pos pins s σ H _ I h) fun us s1 ⟨vs, H1, I1, r1, q1⟩ => ?_) hs rfl))
  obtain ⟨a, xs, ex, q⟩ := q1
  subst ex
  cases r1 with
  | cons r rr =>
    cases rr
    cases r
    have fpk : ∀ b ∈ [s1.heap.objs.size + 1, s1.heap.objs.size], FpOk X pins H1 b := fun b hb => by
      have e' : b = s1.heap.objs.size + 1 ∨ b = s1.heap.objs.size := by simpa using hb
      have hle : s1.heap.objs.size ≤ b := by
        rcases e' with z | z
        · rw [z]; exact Nat.le_add_right _ _
        · rw [z]; exact Nat.le_refl _
      exact I1.fpOk hle (I1.hok.fresh hle)
    rcases q with ⟨hq, q⟩ | ⟨hq, q⟩
    · obtain ⟨its, rv, p', hz⟩ := I1.list hq
      refine call_enumerate_list p'.isList fun h' he hit hsz hk => wpAny_pyIter_enum he ?_
      have I2 : Inv X pins σ H1 { s1 with heap := h' } := I1.kept (t' := s1.toks) hk
      exact ⟨s1.heap.objs.size + 1, [s1.heap.objs.size + 1, s1.heap.objs.size], _, _, H1, rfl, I2, turn_enum a (s1.heap.objs.size + 1) s1.heap.objs.size, ⟨⟨.none, he⟩, hit, Nat.succ_ne_self _⟩, fpk, q⟩
    · obtain ⟨its, rv, p', hz⟩ := I1.tuple hq
      have hT : s1.heap.IsTuple a its.toArray := p'
      refine call_enum1 (begins_tuple a its.toArray) hT fun h' he hit hk => wpAny_pyIter_enum he ?_
      have I2 : Inv X pins σ H1 { s1 with heap := h' } := I1.kept (t' := s1.toks) hk
      exact ⟨s1.heap.objs.size + 1, [s1.heap.objs.size + 1, s1.heap.objs.size], _, _, H1, rfl, I2, turn_enumT a (s1.heap.objs.size + 1) s1.heap.objs.size, ⟨⟨.none, he⟩, ⟨_, hit, rfl, rfl⟩, Nat.succ_ne_self _⟩, fpk, q⟩

/-! ### as sources -/
section
variable {w : Wd} {ρ : List Addr} {H : Hp} {S : Store}
/-- a new pair -/
theorem pair_new {i : Nat} {x : Val} {v : V} {T : Addr} (rs : RepS w ρ H S) (h : H T = none) (r : RepV w ρ H x v) :
    Ext ρ H ρ (upd H T (.tup [.int (i : Nat), v])) ∧ RepV w ρ (upd H T (.tup [.int (i : Nat), v])) (.tup [.int (i : Nat), x]) (.ref T) ∧ RepS w ρ (upd H T (.tup [.int (i : Nat), v])) S := by
  refine ⟨Ext.new rs h, rep_newtup rs h ?_, rs.new h⟩
  simp only [RepVs, RepV]
  exact ⟨_, _, rfl, rfl, v, [], rfl, r, rfl⟩
theorem src_enS {a : Addr} {xs : List Val} {vs : List V} (h : StT w ρ H a vs) (r : RepVs w ρ H xs vs) : SrcOk w ρ H (.enumS xs) (IteT w.K a) := by
  intro ρ' H' S' e rs k
  have h' := (h.ext e).sq
  have r' := r.ext e
  refine ⟨fun q => ⟨vs, h', ?_⟩, fun x q => ?_⟩
  · have q : (xs[k]?.map fun x => Val.tup [.int (k : Nat), x]) = none := Option.some.inj q
    rw [r.length]
    exact List.getElem?_eq_none_iff.mp (Option.map_eq_none_iff.mp q)
  · have q : (xs[k]?.map fun x => Val.tup [.int (k : Nat), x]) = some x := Option.some.inj q
    obtain ⟨y, hy, rfl⟩ := Option.map_eq_some_iff.mp q
    obtain ⟨v, h1, h2⟩ := r'.get hy
    refine ⟨⟨vs, v, h', h1⟩, fun u H2 yl => ?_⟩
    obtain ⟨T, z, rfl, hT, rfl, yl⟩ := yl
    have e := yl vs h'
    rw [h1] at e
    cases e
    exact pair_new rs hT h2
theorem src_enR {a : Addr} {ns : List Int} (h : StL w ρ H a (ns.map V.int)) : SrcOk w ρ H (.enumS (ns.map .int)) (Ite w.K a) := by
  intro ρ' H' S' e rs k
  have h' := (h.ext e).sq
  have r' : RepVs w ρ' H' (ns.map .int) (ns.map V.int) := RepVs.ints ns
  refine ⟨fun q => ⟨_, h', ?_⟩, fun x q => ?_⟩
  · have q : ((ns.map Val.int)[k]?.map fun x => Val.tup [.int (k : Nat), x]) = none := Option.some.inj q
    rw [r'.length]
    exact List.getElem?_eq_none_iff.mp (Option.map_eq_none_iff.mp q)
  · have q : ((ns.map Val.int)[k]?.map fun x => Val.tup [.int (k : Nat), x]) = some x := Option.some.inj q
    obtain ⟨y, hy, rfl⟩ := Option.map_eq_some_iff.mp q
    obtain ⟨v, h1, h2⟩ := r'.get hy
    refine ⟨⟨_, v, h', h1⟩, fun u H2 yl => ?_⟩
    obtain ⟨T, z, rfl, hT, rfl, yl⟩ := yl
    have e := yl _ h'
    rw [h1] at e
    cases e
    exact pair_new rs hT h2
theorem src_enD {a : Addr} {i : Nat} (h : ρ[i]? = some a) : SrcOk w ρ H (.enumD i) (Ite w.K a) := by
  intro ρ' H' S' e rs k
  have ha : ρ'[i]? = some a := by
    obtain ⟨m, rfl, _⟩ := e.pre
    rw [List.getElem?_append_left (List.getElem?_eq_some_iff.mp h).1]; exact h
  have rd : ∀ o, (Src.enumD i).at S' k = some o → ∃ xs vs, S'[i]? = some (.lst xs) ∧ H' a = some (.lst vs) ∧ RepVs w ρ' H' xs vs ∧ (xs[k]?.map fun x => Val.tup [.int (k : Nat), x]) = o := by
    intro o q
    unfold Src.at at q
    dsimp only at q
    split at q
    · rename_i xs hx
      obtain ⟨vs, h1, h2⟩ := lst_at rs ha hx
      exact ⟨xs, vs, hx, h1, h2, Option.some.inj q⟩
    · cases q
  refine ⟨fun q => ?_, fun x q => ?_⟩
  · obtain ⟨xs, vs, h1, h2, h3, h4⟩ := rd _ q
    exact ⟨vs, SqL.of h2, by rw [h3.length]; exact List.getElem?_eq_none_iff.mp (Option.map_eq_none_iff.mp h4)⟩
  · obtain ⟨xs, vs, h1, h2, h3, h4⟩ := rd _ q
    obtain ⟨y, hy, rfl⟩ := Option.map_eq_some_iff.mp h4
    obtain ⟨v, h5, h6⟩ := h3.get hy
    refine ⟨⟨vs, v, SqL.of h2, h5⟩, fun u H2 yl => ?_⟩
    obtain ⟨T, z, rfl, hT, rfl, yl⟩ := yl
    have e := yl vs (SqL.of h2)
    rw [h5] at e
    cases e
    exact pair_new rs hT h6
theorem src_step {lo c : Int} {n : Nat} : SrcOk w ρ H (.stat (stepTo lo c n)) (Itc lo c n) := by
  intro ρ' H' S' e rs k
  have hk : (stepTo lo c n)[k]? = if k < n then some (.int (lo + (k : Nat) * c)) else none := by
    unfold stepTo
    rw [List.getElem?_map]
    by_cases q : k < n
    · rw [if_pos q, List.getElem?_range q]; rfl
    · rw [if_neg q, List.getElem?_eq_none (by simpa using q)]; rfl
  refine ⟨fun q => ?_, fun x q => ?_⟩
  · have q : (stepTo lo c n)[k]? = none := Option.some.inj q
    rw [hk] at q
    split at q
    · cases q
    · show n ≤ k; omega
  · have q : (stepTo lo c n)[k]? = some x := Option.some.inj q
    rw [hk] at q
    split at q
    · rename_i z
      refine ⟨z, fun u H2 yl => ?_⟩
      obtain ⟨rfl, rfl⟩ := yl
      have e := Option.some.inj q
      subst e
      exact ⟨Ext.refl _ _, by simp [RepV], rs⟩
    · cases q
end
section
variable {w : Wd} {T : Tab} {fuel k : Nat} {N : List Str} {ow sc : Scope} {W : WX} {X : Cx} {tg : Expr}
theorem di_enum (G : Good w T fuel k N ow sc W X) {e : Expr} {m : Env → M Val} {p pos tpos : Pos} {elts : List Expr} {kk : Nat} (hg : glB sc "enumerate" = true) (hm : ("enumerate" : Str) ∈ T.blts) (hs : ∀ x p, e ≠ .Starred x p) (h : DE w W X e m) :
    DI w W X (.Tuple elts kk tpos) (.Call (.Name "enumerate" p) [e] [] pos) (fun env => do let x ← m env; enumV x) := by
  obtain ⟨t, pt, q⟩ := h.ex
  refine ⟨_, pi_enumA (gl_of G hg) (G.blts _ hm) (pa_cons pt pa_nil (star_cons hs)) (star_cons hs), fun ρ σ H env S R re rs p => ?_⟩
  refine q ρ σ H env S _ re rs (p.bind.imp fun x H1 ⟨u, ρ1, S1, e1, r1, s1, p1⟩ => ?_)
  unfold enumV at p1
  show ∃ a xs, [x] = [.ref a] ∧ _
  rw [G.hK]
  cases u <;> dsimp only at p1 <;> first | exact p1.elim | skip
  · simp only [RepV] at r1
    obtain ⟨a, vs, rfl, h1, h2⟩ := r1
    exact ⟨a, vs, rfl, .inr ⟨h1.sq, p1.ok (src_enS h1 h2) s1⟩⟩
  · simp only [RepV] at r1
    obtain ⟨a, rfl, h1⟩ := r1
    exact ⟨a, _, rfl, .inl ⟨h1.sq, p1.ok (src_enR h1) s1⟩⟩
  · simp only [RepV] at r1
    obtain ⟨a, rfl, h1⟩ := r1
    split at p1
    · rename_i xs hx
      obtain ⟨vs, h2, h3⟩ := lst_at s1 h1 hx
      exact ⟨a, vs, rfl, .inl ⟨SqL.of h2, p1.ok (src_enD h1) s1⟩⟩
    · exact p1.elim
theorem di_range3 (G : Good w T fuel k N ow sc W X) {e e' e2 : Expr} {m m' m2 : Env → M Val} {p pos : Pos} (hg : glB sc "range" = true) (hm : ("range" : Str) ∈ T.blts) (hs : ∀ x p, e ≠ .Starred x p) (hs' : ∀ x p, e' ≠ .Starred x p) (hs2 : ∀ x p, e2 ≠ .Starred x p)
    (h : DE w W X e m) (h' : DE w W X e' m') (h2 : DE w W X e2 m2) :
    DI w W X tg (.Call (.Name "range" p) [e, e', e2] [] pos) (fun env => do
      let x ← m env
      let y ← m' env
      let z ← m2 env
      match x, y, z with
      | .int i, .int j, .int k => range3V i j k
      | _, _, _ => stuck) := by
  obtain ⟨t, pt, q⟩ := h.ex
  obtain ⟨t', pt', q'⟩ := h'.ex
  obtain ⟨t2, pt2, q2⟩ := h2.ex
  refine ⟨_, pi_range3 (gl_of G hg) (G.blts _ hm) (pa_cons pt (pa_cons pt' (pa_cons pt2 pa_nil (star_cons hs2)) (star_cons hs')) (star_cons hs)) (star_cons hs) (by rw [star_cons hs', star_cons hs2]; rfl), fun ρ σ H env S R re rs p => ?_⟩
  refine q ρ σ H env S _ re rs (p.bind.imp fun x H1 ⟨u, ρ1, S1, e1, r1, s1, p1⟩ => ?_)
  refine q' ρ1 σ H1 env S1 _ (re.ext e1) s1 (p1.bind.imp fun y H2 ⟨v, ρ2, S2, e2, r2, s2, p2⟩ => ?_)
  refine q2 ρ2 σ H2 env S2 _ ((re.ext e1).ext e2) s2 (p2.bind.imp fun z H3 ⟨v3, ρ3, S3, e3, r3, s3, p3⟩ => ?_)
  cases u <;> cases v <;> cases v3 <;> dsimp only at p3 <;> first | exact p3.elim | skip
  simp only [RepV] at r1 r2 r3
  subst r1 r2 r3
  unfold range3V at p3
  split at p3
  · rename_i hz
    simp only [Bool.and_eq_true, decide_eq_true_eq] at hz
    obtain ⟨⟨⟨⟨rfl, h1⟩, h2⟩, h3⟩, h4⟩ := hz
    exact ⟨_, _, _, _, rfl, RgC.neg h1 h2 h3 h4, p3.ok src_step s3⟩
  · exact p3.elim
end
end Pd

/-! Pd: dict displays, dict comprehensions. -/
namespace Pd
open PySem PySem.Spec L2

/-- a step from a later base, the first base kept -/
theorem Post.bind1 {α β α' β' : Type} {w : Wd} {W : WX} {σ : L2.St} {rel : List Addr → Hp → α → β → Prop} {rel' : List Addr → Hp → α' → β' → Prop} {ρ ρ0 : List Addr} {H H0 : Hp} {S : Store} {m : M α} {f : α → M α'} {Q : β' → Hp → Prop}
    (e0 : Ext ρ H ρ0 H0) (h : Post w W σ rel' ρ H ((m >>= f) S) Q) :
    Post w W σ rel ρ0 H0 (m S) (fun x H1 => ∃ v ρ1 S1, Ext ρ0 H0 ρ1 H1 ∧ rel ρ1 H1 v x ∧ RepS w ρ1 H1 S1 ∧ Post w W σ rel' ρ H (f v S1) Q) := by
  rw [bind_app] at h
  cases q : m S with
  | ok v S1 =>
    rw [q] at h
    exact fun x ρ1 H1 e1 e2 e3 => ⟨v, ρ1, S1, e1, e2, e3, h⟩
  | exc x S1 =>
    rw [q] at h
    exact fun c d ρ' H' e1 e2 e3 => h c d ρ' H' (e0.trans e1) e2 e3
  | bad => rw [q] at h; exact h

def RepPs (w : Wd) (ρ : List Addr) (H : Hp) (kvs : List (DKey × Val)) (ps : List (V × V)) : Prop := ∃ vs, RepKV w ρ H kvs vs ∧ ps = vs.map fun e => (kV e.1, e.2)
/-- the pairs of a display -/
structure DPs (w : Wd) (W : WX) (X : Cx) (pos : Pos) (ks : List (Option Expr)) (vs : List Expr) (m : Env → M (List (DKey × Val))) : Prop where
  ex : ∃ trs, PPs X pos ks vs trs ∧ ∀ ρ σ H env S (Q : List (V × V) → Hp → Prop), RepE w ρ H env σ → RepS w ρ H S → Post w W σ (RepPs w) ρ H (m env S) Q → tPairs trs σ H Q
section
variable {w : Wd} {T : Tab} {fuel k : Nat} {N : List Str} {ow sc : Scope} {W : WX} {X : Cx} {tg : Expr}
theorem dps_nil {pos : Pos} : DPs w W X pos [] [] (fun _ => pure []) := ⟨_, pps_nil, fun ρ σ H env S Q re rs p => p.ok ⟨[], by simp [RepKV], rfl⟩ rs⟩
theorem dps_cons {pos : Pos} {kx vx : Expr} {ks : List (Option Expr)} {vs : List Expr} {mk me : Env → M Val} {ms : Env → M (List (DKey × Val))} (hk : DE w W X kx mk) (he : DE w W X vx me) (hs : DPs w W X pos ks vs ms) :
    DPs w W X pos (some kx :: ks) (vx :: vs) (fun env => do
      let x ← mk env
      let v ← me env
      let r ← ms env
      match keyOf x with
      | some q => pure ((q, v) :: r)
      | none => stuck) := by
  obtain ⟨tk, pk, qk⟩ := hk.ex
  obtain ⟨te, pe, qe⟩ := he.ex
  obtain ⟨ts, ps, qs⟩ := hs.ex
  refine ⟨_, pps_cons pk pe ps, fun ρ σ H env S Q re rs p => ?_⟩
  refine qk ρ σ H env S _ re rs (p.bind.imp fun x H1 ⟨u, ρ1, S1, e1, r1, s1, p1⟩ => ?_)
  refine qe ρ1 σ H1 env S1 _ (re.ext e1) s1 (p1.bind.imp fun y H2 ⟨v, ρ2, S2, e2, r2, s2, p2⟩ => ?_)
  refine qs ρ2 σ H2 env S2 _ ((re.ext e1).ext e2) s2 (p2.bind.imp fun l H3 ⟨r, ρ3, S3, e3, r3', s3, p3⟩ => ?_)
  obtain ⟨vs, r3, rfl⟩ := r3'
  cases hq : keyOf u with
  | none => rw [hq] at p3; exact p3.elim
  | some q =>
    rw [hq] at p3
    have ek := key_kV hq ((r1.ext e2).ext e3)
    refine Post.ok p3 ⟨(q, y) :: vs, ?_, by rw [List.map_cons, ← ek]⟩ s3
    simp only [RepKV]
    exact ⟨y, vs, rfl, r2.ext e3, r3⟩
/-- a dict of new -/
theorem Post.alloc_dct {σ : L2.St} {ρ : List Addr} {H : Hp} {S : Store} {kvs : List (DKey × Val)} {vs : List (DKey × V)} {Q : VK} (p : Post w W σ (RepV w) ρ H (alloc (.dct kvs) S) Q) (rs : RepS w ρ H S) (r : RepKV w ρ H kvs vs) :
    ∀ q, H q = none → Q (.ref q) (upd H q (.dK vs)) := fun q hq => by
  refine p _ _ _ (Ext.push rs hq) ?_ (rs.push hq ⟨vs, rfl, r.ext (Ext.push rs hq)⟩)
  simp only [RepV]
  exact ⟨q, rfl, by rw [← rs.len]; simp⟩
theorem de_dsp0 {pos : Pos} : DE w W X (.Dict [] [] pos) (fun _ => do let kvs ← (pure [] : M (List (DKey × Val))); alloc (.dct (mergeV [] kvs))) :=
  ⟨_, pe_dnewK, fun ρ σ H env S Q re rs p => Post.alloc_dct (vs := []) p rs (by simp [mergeV, RepKV])⟩
theorem de_dsp {pos : Pos} {ks : List (Option Expr)} {vs : List Expr} {m : Env → M (List (DKey × Val))} (h : DPs w W X pos ks vs m) (hall : ks.all (·.isSome) = true) (hl : ks.length = vs.length) (h0 : ks ≠ []) (h15 : ks.length ≤ 15)
    (hlen : ∀ env S kvs S', m env S = .ok kvs S' → kvs.length = ks.length) : DE w W X (.Dict ks vs pos) (fun env => do let kvs ← m env; alloc (.dct (mergeV [] kvs))) := by
  obtain ⟨trs, pt, q⟩ := h.ex
  refine ⟨_, pe_disp pt hall hl h0 h15, fun ρ σ H env S Q re rs p D hD => ?_⟩
  have E0 := Ext.new (o := .dK []) rs hD
  have nD := rs.none_out hD
  cases qm : m env S with
  | bad => rw [bind_app, qm] at p; exact p.elim
  | exc x S1 =>
    refine q ρ σ _ env S _ (re.ext E0) (rs.new hD) ?_
    rw [bind_app, qm] at p
    rw [qm]
    exact fun c d ρ' H' e1 e2 e3 => p c d ρ' H' (E0.trans e1) e2 e3
  | ok kvs S1 =>
    have hn := hlen env S kvs S1 qm
    rw [bind_app, qm] at p
    refine q ρ σ _ env S _ (re.ext E0) (rs.new hD) ?_
    rw [qm]
    rintro ps ρ1 H2 e1 ⟨vs', r1, rfl⟩ s1
    have hD2 := e1.oth D _ upd_same nD
    have nD2 := e1.out upd_same nD
    have hlv : vs'.length = kvs.length := r1.length
    refine ⟨hD2, vs', rfl, by omega, ?_⟩
    have r2 := (RepKV.merge (kvs := []) (vs := []) r1 (by simp [RepKV])).own (o' := .dK (mergeK [] vs')) hD2 bare_dK
    have s2 := (s1.own (o' := .dK (mergeK [] vs')) hD2 bare_dK nD2).adopt (c := .dct (mergeV [] kvs)) upd_same bare_dK nD2 ⟨_, rfl, r2⟩
    refine p (.ref D) (ρ1 ++ [D]) _ (((E0.trans e1).own hD _).adopt hD) ?_ s2
    simp only [RepV]
    exact ⟨D, rfl, by rw [← s1.len]; simp⟩

/-! ### dict comprehensions -/
theorem dcompLoop_eq (src : Src) (put : Store → Val → Option Env) (keep : Env → M Bool) (key elt : Env → M Val) (m i : Nat) (acc : List (DKey × Val)) (S : Store) : dcompLoop src put keep key elt m i acc S = match src.at S i with
    | none => .bad
    | some none => .ok acc S
    | some (some x) => match m with
      | 0 => .bad
      | n + 1 => match put S x with
        | none => .bad
        | some env => (keep env >>= fun c => if c then (key env >>= fun y => elt env >>= fun v => match keyOf y with
              | some q => need (decide (acc.length < sizeMax)) >>= fun _ => dcompLoop src put keep key elt n (i + 1) (putV acc q v)
              | none => stuck)
            else dcompLoop src put keep key elt n (i + 1) acc) S := by
  cases m <;> (conv => lhs; unfold dcompLoop) <;> cases src.at S i with | none => rfl | some o => cases o <;> rfl
def dcompM (mi : Env → M Src) (own : List Nat) (t : IT) (mk : Env → M Bool) (mx me : Env → M Val) : Env → M Val := fun env => do
  let src ← mi env
  let env' := envDels env own
  let kvs ← noExc fun S => dcompLoop src (fun S x => evT S t x env') mk mx me (src.len S) 0 [] S
  alloc (.dct kvs)
theorem dc_ok {own : List Nat} {t : IT} {mi : Env → M Src} {mk : Env → M Bool} {mx me : Env → M Val} {ti : TI}
    (ho : ∀ i ∈ slotsT t, i ∈ own) (qi : ∀ ρ σ H env S (R : It → Hp → Prop), RepE w ρ H env σ → RepS w ρ H S → Post w W σ (SrcOk w) ρ H (mi env S) R → ti σ H R)
    {ρ : List Addr} {σ : L2.St} {H : Hp} {env : Env} {S : Store} {Q : VK} (re : RepE w ρ H env σ) (rs : RepS w ρ H S) (p : Post w W σ (RepV w) ρ H (dcompM mi own t mk mx me env S) Q) :
    tDc ti (gOf w t) (ttOf w WF mk) (tOf w WF mx) (tOf w WF me) own σ H Q := by
  unfold dcompM at p
  refine qi ρ σ H env S _ re rs (p.bind.imp fun J H1 ⟨src, ρ1, S1, e1, r1, s1, p1⟩ D hD => ?_)
  have re1 := (re.ext e1).dels own
  have p1 := (congrArg (fun r => Post w W σ (RepV w) ρ1 H1 r Q) (noExc_bind (fun S => dcompLoop src (fun S x => evT S t x (envDels env own)) mk mx me (src.len S) 0 [] S) (fun kvs => alloc (.dct kvs)) S1)).mp p1
  generalize envDels env own = env' at p1 re1
  refine ⟨fun i m H' => ∃ ρk Sk acc vs, Ext ρ1 H1 ρk H' ∧ RepS w ρk H' Sk ∧ D ∉ ρk ∧ H' D = some (.dK vs) ∧ RepKV w ρk H' acc vs ∧
    Post w W σ (RepV w) ρ1 H1 ((dcompLoop src (fun S x => evT S t x env') mk mx me m i acc Sk).onOk fun kvs => alloc (.dct kvs)) Q, ⟨src.len S1, ρ1, S1, [], [], Ext.new s1 hD, s1.new hD, s1.none_out hD, upd_same, by simp [RepKV], p1⟩, ?_⟩
  rintro i m H2 ⟨ρk, Sk, acc, vs, ek, sk, nD, hDk, rk, pk⟩
  rw [dcompLoop_eq] at pk
  obtain ⟨go1, go2⟩ := r1 ρk H2 Sk ek sk i
  cases qa : src.at Sk i with
  | none => rw [qa] at pk; exact pk.elim
  | some o =>
    rw [qa] at pk
    cases o with
    | none =>
      refine .inl ⟨go1 qa, ?_⟩
      dsimp only at pk
      refine pk (.ref D) (ρk ++ [D]) H2 (ek.adopt hD) ?_ (sk.adopt hDk bare_dK nD ⟨_, rfl, rk⟩)
      simp only [RepV]
      exact ⟨D, rfl, by rw [← sk.len]; simp⟩
    | some x =>
      obtain ⟨go, gy⟩ := go2 x qa
      dsimp only at pk
      cases m with
      | zero => exact pk.elim
      | succ n =>
        dsimp only at pk
        cases qp : evT Sk t x env' with
        | none => rw [qp] at pk; exact pk.elim
        | some env2 =>
          rw [qp] at pk
          refine .inr ⟨go, _, fun H' nx => ⟨n, Nat.lt_succ_self n, nx⟩, fun v H3 yl => ?_⟩
          obtain ⟨ey, rv, sy⟩ := gy v H3 yl
          have ek3 := ek.trans ey
          have hD3 := ey.oth D _ hDk nD
          refine ⟨ρk, Sk, env', env2, x, re1.ext ek3, rv, sy, qp, fun σ2 re2 hl hσ => ⟨(wipe_eq hl hσ ho).trans (wipe_eq (is := own) (wipe_length _ _) (fun i hi => wipe_out hi) fun i hi => hi), ρk, env2, Sk, re2, sy, ?_⟩⟩
          dsimp only at pk
          rw [bind_app] at pk
          cases qk : mk env2 Sk with
          | bad => rw [qk] at pk; exact pk.elim
          | exc y S' => rw [qk] at pk; exact pk.elim
          | ok c S2 =>
            rw [qk] at pk
            dsimp only at pk
            refine fun b ρ4 H4 e4 hb s4 => ?_
            subst hb
            have hD4 := e4.oth D _ hD3 nD
            have nD4 := e4.out hD3 nD
            have ek4 := ek3.trans e4
            cases c with
            | false =>
              rw [if_neg Bool.false_ne_true] at pk ⊢
              exact ⟨ρ4, S2, acc, vs, ek4, s4, nD4, hD4, (rk.ext ey).ext e4, pk⟩
            | true =>
              rw [if_pos rfl] at pk ⊢
              refine ⟨ρ4, env2, S2, re2.ext e4, s4, ?_⟩
              rw [bind_app] at pk
              cases qx : mx env2 S2 with
              | bad => rw [qx] at pk; exact pk.elim
              | exc y S' => rw [qx] at pk; exact pk.elim
              | ok kx S3 =>
                rw [qx] at pk
                dsimp only at pk
                refine fun y ρ5 H5 e5 ry s5 => ?_
                refine ⟨ρ5, env2, S3, (re2.ext e4).ext e5, s5, ?_⟩
                rw [bind_app] at pk
                cases qe : me env2 S3 with
                | bad => rw [qe] at pk; exact pk.elim
                | exc y S' => rw [qe] at pk; exact pk.elim
                | ok u S4 =>
                  rw [qe] at pk
                  dsimp only at pk
                  refine fun z ρ6 H6 e6 rz s6 => ?_
                  have hD6 := e6.oth D _ (e5.oth D _ hD4 nD4) (e5.out hD4 nD4)
                  have nD6 := e6.out (e5.oth D _ hD4 nD4) (e5.out hD4 nD4)
                  have ek6 := (ek4.trans e5).trans e6
                  cases hq : keyOf kx with
                  | none => rw [hq] at pk; exact pk.elim
                  | some q =>
                    rw [hq] at pk
                    dsimp only at pk
                    rw [bind_app, need_app] at pk
                    by_cases hz : acc.length < sizeMax
                    · rw [if_pos (by simpa using hz)] at pk
                      dsimp only at pk
                      have rk6 := (((rk.ext ey).ext e4).ext e5).ext e6
                      have eky := key_kV hq (ry.ext e6)
                      refine ⟨vs, q, eky, hD6, by rw [rk6.length, ← size_eq]; exact hz, ρ6, S4, putV acc q u, putK vs q z, ek6.own hD _, s6.own hD6 bare_dK nD6, nD6, upd_same, (rk6.put rz).own hD6 bare_dK, pk⟩
                    · rw [if_neg (by simpa using hz)] at pk
                      exact pk.elim
theorem de_dcomp (G : Good w T fuel k N ow sc W X) {kx elt tg iter : Expr} {ifs : List Expr} {scope : Scope} {own : List (Str × Nat)} {pos : Pos} {t : IT} {mi : Env → M Src} {mk : Env → M Bool} {mx me : Env → M Val}
    (ok : BlkOk N sc scope own) (hi : DI w W X tg iter mi) (ht : chkT T N scope (relS scope sc) t tg = true) (ho : ∀ i ∈ slotsT t, i ∈ own.map (·.2))
    (hk : ∀ X', Good w T fuel k N scope (relS scope sc) WF X' → (ifs = [] ∧ mk = fun _ => pure true) ∨ ∃ c, ifs = [c] ∧ DT w WF X' c mk) (hx : ∀ X', Good w T fuel k N scope (relS scope sc) WF X' → DE w WF X' kx mx) (he : ∀ X', Good w T fuel k N scope (relS scope sc) WF X' → DE w WF X' elt me)
    (hs : ∀ x, foldedSetIterable iter X.env x = pure x) :
    DE w W X (.DictComp kx elt [⟨tg, iter, ifs, 0⟩] scope pos) (dcompM mi (own.map (·.2)) t mk mx me) := by
  obtain ⟨ti, pi, qi⟩ := hi.ex
  have B := fun s H C cl fp => good_blk G s H scope cl C fp
  exact ⟨_, pe_dc (g := gOf w t) (tt := ttOf w WF mk) (tk := tOf w WF mx) (tv := tOf w WF me) G.calm G.nd pi (by rw [G.hN, G.hsc]; exact ok) (fun s H C cl fp => pg_of (B s H C cl fp) ht)
    (fun s H C cl fp => pts_of (hk _ (B s H C cl fp))) (fun s H C cl fp => (hx _ (B s H C cl fp)).pe) (fun s H C cl fp => (he _ (B s H C cl fp)).pe) hs, fun ρ σ H env S Q re rs p => dc_ok ho qi re rs p⟩
end
end Pd

/-! Pd, part 13: each expression that is checked is kept. -/
namespace Pd
open PySem PySem.Spec L2

section
variable {w : Wd} {T : Tab} {fuel k : Nat} {N : List Str} {ow sc : Scope} {W : WX} {X : Cx}

/-! ### a op b op c -/
theorem de_chain (G : Good w T fuel k N ow sc W X) {a b c : Expr} {ma mb mc : Env → M Val} {o1 o2 : Cop} {p1 p2 : CmpOp} {pos : Pos} (h1 : copB o1 p1 = true) (h2 : copB o2 p2 = true) (ha : DE w W X a ma) (hb : DE w W X b mb) (hc : DE w W X c mc) (hm : lastMarks [p1, p2] [b, c] = false) :
    DE w W X (.Compare a [p1, p2] [b, c] pos) (fun env => do
      let x ← ma env
      let y ← mb env
      let r ← cmpV o1 x y
      let t ← truthM r
      if t then do let z ← mc env; cmpV o2 y z else pure r) := by
  obtain ⟨ta, pa, qa⟩ := ha.ex
  obtain ⟨tb, pb, qb⟩ := hb.ex
  obtain ⟨tc, pc, qc⟩ := hc.ex
  refine ⟨_, pe_chain (op_cmp h1 G.room.units) (op_cmp h2 G.room.units) pa pb pc hm, fun ρ σ H env S Q re rs p => ?_⟩
  refine qa ρ σ H env S _ re rs (p.bind.imp fun x H1 ⟨u, ρ1, S1, e1, r1, s1, p1⟩ => ?_)
  refine qb ρ1 σ H1 env S1 _ (re.ext e1) s1 (p1.bind.imp fun y H2 ⟨v, ρ2, S2, e2, r2, s2, p2⟩ => ?_)
  rw [G.hK]
  refine cmp_ok (W := W) (σ := σ) (r1.ext e2) r2 s2 (?_ : Post w W σ (RepV w) ρ2 H2 (cmpV o1 u v S2) _)
  rw [bind_app] at p2
  cases q : cmpV o1 u v S2 with
  | bad => rw [q] at p2; exact p2.elim
  | exc e S' => rw [q] at p2; exact p2
  | ok r S3 =>
    rw [q] at p2
    obtain ⟨d, rfl⟩ := cmp_bool q
    intro z ρ3 H3 e3 r3 s3
    simp only [RepV] at r3
    refine ⟨d, r3, ?_⟩
    have p3 := p2.later e3
    cases d with
    | false =>
      rw [if_neg Bool.false_ne_true]
      exact p3.ok (by simp [RepV]) s3
    | true =>
      rw [if_pos rfl]
      have p3 : Post w W σ (RepV w) ρ3 H3 ((mc env >>= fun z => cmpV o2 v z) S3) Q := p3
      refine qc ρ3 σ H3 env S3 _ (re.ext ((e1.trans e2).trans e3)) s3 (p3.bind.imp fun y H4 ⟨v4, ρ4, S4, e4, r4, s4, p4⟩ => ?_)
      exact cmp_ok ((r2.ext e3).ext e4) r4 s4 p4
theorem dt_chain (G : Good w T fuel k N ow sc W X) {a b c : Expr} {ma mb mc : Env → M Val} {o1 o2 : Cop} {p1 p2 : CmpOp} {pos : Pos} (h1 : copB o1 p1 = true) (h2 : copB o2 p2 = true) (ha : DE w W X a ma) (hb : DE w W X b mb) (hc : DE w W X c mc) (hm : lastMarks [p1, p2] [b, c] = false) :
    DT w W X (.Compare a [p1, p2] [b, c] pos) (fun env => (do
      let x ← ma env
      let y ← mb env
      let r ← cmpV o1 x y
      let t ← truthM r
      if t then do let z ← mc env; cmpV o2 y z else pure r) >>= truthM) := by
  obtain ⟨ta, pa, qa⟩ := ha.ex
  obtain ⟨tb, pb, qb⟩ := hb.ex
  obtain ⟨tc, pc, qc⟩ := hc.ex
  refine ⟨_, pt_chain (op_cmp h1 G.room.units) (op_cmp h2 G.room.units) pa pb pc hm, fun ρ σ H env S Q re rs p => ?_⟩
  simp only [M.assoc] at p
  refine qa ρ σ H env S _ re rs (p.bind.imp fun x H1 ⟨u, ρ1, S1, e1, r1, s1, p1⟩ => ?_)
  refine qb ρ1 σ H1 env S1 _ (re.ext e1) s1 (p1.bind.imp fun y H2 ⟨v, ρ2, S2, e2, r2, s2, p2⟩ => ?_)
  rw [G.hK]
  refine cmp_ok (W := W) (σ := σ) (r1.ext e2) r2 s2 (?_ : Post w W σ (RepV w) ρ2 H2 (cmpV o1 u v S2) _)
  rw [bind_app] at p2
  cases q : cmpV o1 u v S2 with
  | bad => rw [q] at p2; exact p2.elim
  | exc e S' => rw [q] at p2; exact p2
  | ok r S3 =>
    rw [q] at p2
    obtain ⟨d, rfl⟩ := cmp_bool q
    intro z ρ3 H3 e3 r3 s3
    simp only [RepV] at r3
    refine ⟨d, r3, ?_⟩
    have p3 := p2.later e3
    cases d with
    | false =>
      rw [if_neg Bool.false_ne_true]
      exact ⟨false, rfl, p3.ok rfl s3⟩
    | true =>
      rw [if_pos rfl]
      have p3 : Post w W σ (fun _ _ a b => a = b) ρ3 H3 (((mc env >>= fun z => cmpV o2 v z) >>= truthM) S3) Q := p3
      rw [M.assoc] at p3
      refine qc ρ3 σ H3 env S3 _ (re.ext ((e1.trans e2).trans e3)) s3 (p3.bind.imp fun y H4 ⟨v4, ρ4, S4, e4, r4, s4, p4⟩ => ?_)
      exact cmp_ok ((r2.ext e3).ext e4) r4 s4 (p4.asked fun _ _ => cmp_bool)

/-- what a checked expression is not -/
theorem chkE_star {i : IE} {x : Expr} {p : Pos} (h : chkE T N sc i (.Starred x p) = true) : False := by
  cases i <;> simp [chkE] at h
theorem chkE_slice {i : IE} {a b c : Option Expr} {p : Pos} (h : chkE T N sc i (.Slice a b c p) = true) : False := by
  cases i <;> simp [chkE] at h
theorem chkE_super {i : IE} {e : Expr} (h : chkE T N sc i e = true) : ∀ x p q, e = .Call (.Name x p) [] [] q → x ≠ "super" := by
  rintro x p q rfl
  cases i <;> simp only [chkE, Bool.and_eq_true, decide_eq_true_eq, Bool.false_eq_true] at h
  case call f es => exact sup_of h.1.2
  case bi b es => exact sup_of h.1.1.1.2
theorem chkEs_star : ∀ {is : IEs} {es : List Expr}, chkEs T N sc is es = true → NoStar es
  | .nil, [], _ => fun _ z => (List.not_mem_nil z).elim
  | .nil, _ :: _, h => by simp [chkEs] at h
  | .cons _ _, [], h => by simp [chkEs] at h
  | .cons i is, e :: es, h => by
    simp only [chkEs, Bool.and_eq_true] at h
    intro z hz
    rcases List.mem_cons.mp hz with rfl | hz
    · intro x p q
      subst q
      exact chkE_star h.1
    · exact chkEs_star h.2 z hz
end
end Pd

/-! Pd, part 14: each expression that is checked is kept. -/
namespace Pd
open PySem PySem.Spec L2

abbrev Tab.C (T : Tab) (fuel k : Nat) : EvC := ⟨callF T fuel k, T.globs, T.cnames⟩
/-- a value and a test -/
structure DB (w : Wd) (W : WX) (X : Cx) (e : Expr) (m : Env → M Val) : Prop where
  de : DE w W X e m
  dt : DT w W X e (fun env => m env >>= truthM)

section
variable {w : Wd} {T : Tab} {fuel k : Nat} {N : List Str} {ow sc : Scope} {W : WX} {X : Cx}
theorem db_plain (G : Good w T fuel k N ow sc W X) {e : Expr} {m : Env → M Val} (h : DE w W X e m) (he : ∀ whole, isTrue e X.env whole = (do let v ← whole; standAt e.pos; holding [v] (truthy v)) := by intro _; rfl) : DB w W X e m := ⟨h, dt_plain G h he⟩
theorem setIt_ok {i : II} {e : Expr} {env : PySem.Env} (h : chkI T N sc i e = true) : ∀ x, foldedSetIterable e env x = pure x := by
  intro x
  unfold foldedSetIterable
  split
  · cases i with
    | val a => cases a <;> simp [chkI, chkE] at h
    | range1 a => simp [chkI] at h
    | range2 a b => simp [chkI] at h
    | range3 a b c => simp [chkI] at h
    | enum a => simp [chkI] at h
  · rfl
/-- the pairs of a display that is checked -/
theorem chkD_facts : ∀ {ds : IDs} {ks : List (Option Expr)} {vs : List Expr}, chkD T N sc ds ks vs = true → ks.all (·.isSome) = true ∧ ks.length = vs.length ∧ ks.length = lenDs ds
  | .nil, ks, vs, h => by
    cases ks <;> cases vs <;> first | (simp [chkD] at h; done) | exact ⟨rfl, rfl, rfl⟩
  | .cons i e ds, ks, vs, h => by
    cases ks with
    | nil => simp [chkD] at h
    | cons kx ks =>
      cases kx with
      | none => simp [chkD] at h
      | some kx =>
        cases vs with
        | nil => simp [chkD] at h
        | cons vx vs =>
          simp only [chkD, Bool.and_eq_true] at h
          obtain ⟨a, b, c⟩ := chkD_facts h.2
          exact ⟨by simpa using a, by simp [b], by simp [c, lenDs]⟩
theorem evD_len {C : EvC} : ∀ {ds : IDs} {env : Env} {S : Store} {kvs : List (DKey × Val)} {S' : Store}, evD C ds env S = .ok kvs S' → kvs.length = lenDs ds
  | .nil, env, S, kvs, S', h => by
    simp only [evD, pure_app] at h
    injection h with h1 h2
    subst h1; rfl
  | .cons i e ds, env, S, kvs, S', h => by
    simp only [evD, bind_app] at h
    cases q1 : evE C i env S with
    | bad => rw [q1] at h; cases h
    | exc _ _ => rw [q1] at h; cases h
    | ok x S1 =>
      rw [q1] at h
      dsimp only at h
      cases q2 : evE C e env S1 with
      | bad => rw [q2] at h; cases h
      | exc _ _ => rw [q2] at h; cases h
      | ok v S2 =>
        rw [q2] at h
        dsimp only at h
        cases q3 : evD C ds env S2 with
        | bad => rw [q3] at h; cases h
        | exc _ _ => rw [q3] at h; cases h
        | ok r S3 =>
          rw [q3] at h
          dsimp only at h
          cases q4 : keyOf x with
          | none => rw [q4] at h; cases h
          | some q =>
            rw [q4] at h
            injection h with h1 h2
            subst h1
            simp [lenDs, evD_len q3]
set_option hygiene false in
mutual
theorem db_of : ∀ (i : IE) (e : Expr) {ow sc : Scope} {W : WX} {X : Cx}, Good w T fuel k N ow sc W X → chkE T N sc i e = true → DB w W X e (evE (T.C fuel k) i)
  | .lit l, e, ow, sc, W, X, G, h => by
    cases e <;> first | (simp [chkE] at h; done) | skip
    simp only [chkE] at h
    simp only [evE]
    exact db_plain G (de_lit h)
  | .var i, e, ow, sc, W, X, G, h => by
    cases e <;> first | (simp [chkE] at h; done) | skip
    simp only [chkE] at h
    simp only [evE]
    exact db_plain G (de_var G h)
  | .glob g, e, ow, sc, W, X, G, h => by
    cases e <;> first | (simp [chkE] at h; done) | skip
    simp only [chkE] at h
    simp only [evE]
    exact db_plain G (de_glob G h)
  | .bin op a b, e, ow, sc, W, X, G, h => by
    cases e <;> first | (simp [chkE] at h; done) | skip
    simp only [chkE, Bool.and_eq_true] at h
    simp only [evE]
    exact db_plain G (de_bin2 (op_bin h.1.1) (db_of a _ G h.1.2).de (db_of b _ G h.2).de fun ρ σ H S x y u v Q r1 r2 rs p => by rw [G.hK]; exact bin_ok r1 r2 rs p)
  | .neg a, e, ow, sc, W, X, G, h => by
    cases e <;> first | (simp [chkE] at h; done) | skip
    rename_i op x p
    cases op <;> first | (simp [chkE] at h; done) | skip
    simp only [chkE] at h
    simp only [evE]
    exact db_plain G (de_neg (db_of a _ G h).de)
  | .not a, e, ow, sc, W, X, G, h => by
    cases e <;> first | (simp [chkE] at h; done) | skip
    rename_i op x p
    cases op <;> first | (simp [chkE] at h; done) | skip
    simp only [chkE] at h
    simp only [evE]
    have D := db_of a _ G h
    exact ⟨de_not G D.de, dt_not D.dt⟩
  | .ife c a b, e, ow, sc, W, X, G, h => by
    cases e <;> first | (simp [chkE] at h; done) | skip
    simp only [chkE, Bool.and_eq_true] at h
    simp only [evE]
    have D1 := db_of c _ G h.1.1
    have D2 := db_of a _ G h.1.2
    have D3 := db_of b _ G h.2
    exact ⟨de_ife D1.dt D2.de D3.de, dt_ife D1.dt D2.dt D3.dt⟩
  | .cmp op a b, e, ow, sc, W, X, G, h => by
    cases e <;> first | (simp [chkE] at h; done) | skip
    rename_i l ops rs p
    rcases ops with _ | ⟨o, _ | ⟨_, _⟩⟩ <;> first | (simp [chkE] at h; done) | skip
    rcases rs with _ | ⟨r, _ | ⟨_, _⟩⟩ <;> first | (simp [chkE] at h; done) | skip
    simp only [chkE, Bool.and_eq_true, Bool.not_eq_true'] at h
    simp only [evE]
    have D1 := db_of a _ G h.1.1.2
    have D2 := db_of b _ G h.1.2
    have ok : ∀ ρ σ H S x y u v (Q : VK), RepV w ρ H u x → RepV w ρ H v y → RepS w ρ H S → Post w W σ (RepV w) ρ H (cmpV op u v S) Q → rCmp X.K op x y H Q := fun ρ σ H S x y u v Q r1 r2 rs p => by rw [G.hK]; exact cmp_ok r1 r2 rs p
    exact ⟨de_cmp2 (op_cmp h.1.1.1 G.room.units) D1.de D2.de h.2 ok, dt_cmp2 (op_cmp h.1.1.1 G.room.units) D1.de D2.de h.2 ok fun u v S v' S' q => cmp_bool q⟩
  | .chain o1 o2 a b c, e, ow, sc, W, X, G, h => by
    cases e <;> first | (simp [chkE] at h; done) | skip
    rename_i l ops rs p
    rcases ops with _ | ⟨p1, _ | ⟨p2, _ | ⟨_, _⟩⟩⟩ <;> first | (simp [chkE] at h; done) | skip
    rcases rs with _ | ⟨r1, _ | ⟨r2, _ | ⟨_, _⟩⟩⟩ <;> first | (simp [chkE] at h; done) | skip
    simp only [chkE, Bool.and_eq_true, Bool.not_eq_true'] at h
    simp only [evE]
    have D1 := db_of a _ G h.1.1.1.2
    have D2 := db_of b _ G h.1.1.2
    have D3 := db_of c _ G h.1.2
    exact ⟨de_chain G h.1.1.1.1.1 h.1.1.1.1.2 D1.de D2.de D3.de h.2, dt_chain G h.1.1.1.1.1 h.1.1.1.1.2 D1.de D2.de D3.de h.2⟩
  | .and a b, e, ow, sc, W, X, G, h => by
    cases e <;> first | (simp [chkE] at h; done) | skip
    rename_i op es p
    cases op <;> first | (simp [chkE] at h; done) | skip
    rcases es with _ | ⟨e1, _ | ⟨e2, r⟩⟩ <;> first | (simp [chkE] at h; done) | skip
    simp only [chkE, Bool.and_eq_true] at h
    simp only [evE]
    have D1 := db_of a _ G h.1
    cases r with
    | nil =>
      have D2 := db_of b _ G h.2
      exact ⟨de_and G D1.de (de_one D2.de), (dw_and D1.dt (dw_and1 D2.dt)).dt⟩
    | cons e3 r =>
      have D2 := db_of b _ G h.2
      exact ⟨de_and G D1.de D2.de, (dw_and D1.dt (dwA_of b _ _ _ _ G h.2)).dt⟩
  | .or a b, e, ow, sc, W, X, G, h => by
    cases e <;> first | (simp [chkE] at h; done) | skip
    rename_i op es p
    cases op <;> first | (simp [chkE] at h; done) | skip
    rcases es with _ | ⟨e1, _ | ⟨e2, r⟩⟩ <;> first | (simp [chkE] at h; done) | skip
    simp only [chkE, Bool.and_eq_true] at h
    simp only [evE]
    have D1 := db_of a _ G h.1
    cases r with
    | nil =>
      have D2 := db_of b _ G h.2
      exact ⟨de_or G D1.de (de_one D2.de), (dw_or D1.dt (dw_or1 D2.dt)).dt⟩
    | cons e3 r =>
      have D2 := db_of b _ G h.2
      exact ⟨de_or G D1.de D2.de, (dw_or D1.dt (dwO_of b _ _ _ _ G h.2)).dt⟩
  | .tup es, e, ow, sc, W, X, G, h => by
    cases e <;> first | (simp [chkE] at h; done) | skip
    simp only [chkE] at h
    simp only [evE]
    exact db_plain G (de_tup (da_of es _ G h))
  | .lst es, e, ow, sc, W, X, G, h => by
    cases e <;> first | (simp [chkE] at h; done) | skip
    simp only [chkE] at h
    simp only [evE]
    exact db_plain G (de_lst (da_of es _ G h))
  | .dsp ds, e, ow, sc, W, X, G, h => by
    cases e <;> first | (simp [chkE] at h; done) | skip
    rename_i ks vs p
    simp only [chkE, Bool.and_eq_true, decide_eq_true_eq] at h
    simp only [evE]
    obtain ⟨h1, h2⟩ := h
    obtain ⟨c1, c2, c3⟩ := chkD_facts h1
    cases ds with
    | nil =>
      cases ks <;> cases vs <;> first | (simp [chkD] at h1; done) | skip
      simp only [evD]
      exact db_plain G de_dsp0
    | cons k e ds =>
      refine db_plain G (de_dsp (dp_of' (.cons k e ds) ks vs p G h1) c1 c2 (fun z => ?_) h2 fun env S kvs S' q => ?_)
      · subst z
        simp [chkD] at h1
      · rw [c3, evD_len q]
  | .dcomp key elt own t it c, e, ow, sc, W, X, G, h => by
    cases e <;> first | (simp [chkE] at h; done) | skip
    rename_i kx el gs scope p
    rcases gs with _ | ⟨⟨tg, ie, ifs, as⟩, _ | ⟨_, _⟩⟩ <;> first | (simp [chkE] at h; done) | skip
    simp only [chkE, Bool.and_eq_true, List.all_eq_true, decide_eq_true_eq] at h
    simp only [evE]
    obtain ⟨⟨⟨⟨⟨⟨⟨⟨h0, h1⟩, htg⟩, h2⟩, h3⟩, h4⟩, h5⟩, h6⟩, h7⟩ := h
    subst h0
    refine db_plain G (de_dcomp G (blkOk_by h2) (di_of it _ tg G htg h1) h4 (fun i hi => by simpa using h3 i hi) (fun X' G' => ?_) (fun X' G' => (db_of key _ G' h6).de) (fun X' G' => (db_of elt _ G' h7).de) (setIt_ok h1))
    cases c with
    | none =>
      cases ifs with
      | nil => exact .inl ⟨rfl, by simp only [evK]⟩
      | cons _ _ => simp [chkTO] at h5
    | some c =>
      rcases ifs with _ | ⟨f, _ | ⟨_, _⟩⟩ <;> first | (simp [chkTO] at h5; done) | skip
      simp only [chkTO] at h5
      simp only [evK]
      exact .inr ⟨f, rfl, (db_of c _ G' h5).dt⟩
  | .fld a f, e, ow, sc, W, X, G, h => by simp [chkE] at h
  | .idx a b, e, ow, sc, W, X, G, h => by
    cases e <;> first | (simp [chkE] at h; done) | skip
    simp only [chkE, Bool.and_eq_true] at h
    simp only [evE]
    exact db_plain G (de_idx G (fun l u st p q => by subst q; exact chkE_slice h.2) (db_of a _ G h.1).de (db_of b _ G h.2).de)
  | .slc a lo hi, e, ow, sc, W, X, G, h => by
    cases e <;> first | (simp [chkE] at h; done) | skip
    rename_i x y p
    cases y <;> first | (simp [chkE] at h; done) | skip
    rename_i l u st p2
    cases st <;> first | (simp [chkE] at h; done) | skip
    simp only [chkE, Bool.and_eq_true] at h
    simp only [evE]
    exact db_plain G (de_slc G (db_of a _ G h.1.1).de (do_of lo _ G h.1.2) (do_of hi _ G h.2))
  | .rev a, e, ow, sc, W, X, G, h => by
    cases e <;> first | (simp [chkE] at h; done) | skip
    rename_i x y p
    cases y <;> first | (simp [chkE] at h; done) | skip
    rename_i l u st p2
    cases l <;> first | (simp [chkE] at h; done) | skip
    cases u <;> first | (simp [chkE] at h; done) | skip
    cases st <;> first | (simp [chkE] at h; done) | skip
    rename_i st
    cases st <;> first | (simp [chkE] at h; done) | skip
    rename_i op z p3
    cases op <;> first | (simp [chkE] at h; done) | skip
    cases z <;> first | (simp [chkE] at h; done) | skip
    rename_i c j p4
    cases c <;> first | (simp [chkE] at h; done) | skip
    simp only [chkE, Bool.and_eq_true, decide_eq_true_eq] at h
    obtain ⟨rfl, h⟩ := h
    simp only [evE]
    exact db_plain G (de_rev G (db_of a _ G h).de)
  | .call f es, e, ow, sc, W, X, G, h => by
    cases e <;> first | (simp [chkE] at h; done) | skip
    rename_i fe xs kw p
    cases fe <;> first | (simp [chkE] at h; done) | skip
    cases kw <;> first | (simp [chkE] at h; done) | skip
    simp only [chkE, Bool.and_eq_true, decide_eq_true_eq] at h
    simp only [evE]
    have ha := da_of es _ G h.2
    have hn := chkEs_star h.2
    cases q : T.fns[f]? with
    | none => rw [q] at h; cases h.1.1.1
    | some d =>
      rw [q] at h
      have e := Option.some.inj h.1.1.1
      cases xs with
      | nil =>
        cases es with
        | nil => simp only [evEs]; exact db_plain G (de_call0 G q e h.1.1.2 h.1.2)
        | cons _ _ => simp [chkEs] at h
      | cons x xs => exact db_plain G (de_call G q e h.1.1.2 h.1.2 hn ha)
  | .bi b es, e, ow, sc, W, X, G, h => by
    cases e <;> first | (simp [chkE] at h; done) | skip
    rename_i fe xs kw p
    cases fe <;> first | (simp [chkE] at h; done) | skip
    cases kw <;> first | (simp [chkE] at h; done) | skip
    simp only [chkE, Bool.and_eq_true, decide_eq_true_eq, List.contains_eq_mem] at h
    simp only [evE]
    obtain ⟨⟨⟨⟨⟨h1, h2⟩, h3⟩, h4⟩, h5⟩, h6⟩ := h
    subst h1
    cases xs with
    | nil => simp at h6
    | cons x xs => exact db_plain G (de_bi G h2 h4 (chkEs_star h5) (da_of es _ G h5))
  | .isin a ts, e, ow, sc, W, X, G, h => by
    cases e <;> first | (simp [chkE] at h; done) | skip
    rename_i fe xs kw p
    cases fe <;> first | (simp [chkE] at h; done) | skip
    rcases xs with _ | ⟨x, _ | ⟨y, _ | ⟨_, _⟩⟩⟩ <;> first | (simp [chkE] at h; done) | skip
    cases kw <;> first | (simp [chkE] at h; done) | skip
    simp only [chkE, Bool.and_eq_true, decide_eq_true_eq, List.contains_eq_mem] at h
    simp only [evE]
    obtain ⟨⟨⟨⟨h1, h2⟩, h3⟩, h4⟩, h5⟩ := h
    subst h1
    have hs : ∀ y q, x ≠ .Starred y q := fun y q z => by subst z; exact chkE_star h4
    have D := (db_of a _ G h4).de
    cases y <;> first | (simp [tyN] at h5; done) | skip
    · simp only [tyN, Bool.and_eq_true, decide_eq_true_eq] at h5
      obtain ⟨t, rfl⟩ := List.length_eq_one_iff.mp h5.1
      exact db_plain G (de_isin1 G h2 h3 hs D h5.2)
    · simp only [tyN, Bool.and_eq_true, decide_eq_true_eq] at h5
      exact db_plain G (de_isinT G h2 h3 hs D h5.2 (Nat.le_trans h5.1 (by decide)))
  | .bm m o es, e, ow, sc, W, X, G, h => by
    cases e <;> first | (simp [chkE] at h; done) | skip
    rename_i fe xs kw p
    cases fe <;> first | (simp [chkE] at h; done) | skip
    cases kw <;> first | (simp [chkE] at h; done) | skip
    simp only [chkE, Bool.and_eq_true, decide_eq_true_eq] at h
    simp only [evE]
    obtain ⟨⟨⟨⟨⟨h1, h2⟩, h3⟩, h4⟩, h5⟩, h6⟩ := h
    subst h1
    have D := db_of o _ G h2
    have ha := da_of es _ G h3
    have hn := chkEs_star h3
    have hb := chkE_super h2
    by_cases hm : m = .bitlen
    · subst hm
      rcases xs with _ | ⟨_, _⟩ <;> first | (simp [bmAr] at h6; done) | skip
      cases es <;> first | (simp [chkEs] at h3; done) | skip
      simp only [evEs]
      exact db_plain G (de_bitlen D.de hb h5)
    by_cases hm2 : m = .pop
    · subst hm2
      rcases xs with _ | ⟨_, _⟩ <;> first | (simp [bmAr] at h6; done) | skip
      cases es <;> first | (simp [chkEs] at h3; done) | skip
      simp only [evEs]
      exact db_plain G (de_pop G D.de hb h5)
    cases xs with
    | nil => cases m <;> first | (simp [bmAr] at h6; done) | exact absurd rfl hm | exact absurd rfl hm2
    | cons x xs => exact db_plain G (de_bm G ⟨hm, hm2⟩ D.de hb ha hn h4 h5)
  | .comp elt own t it c, e, ow, sc, W, X, G, h => by
    cases e <;> first | (simp [chkE] at h; done) | skip
    rename_i el gs scope p
    rcases gs with _ | ⟨⟨tg, ie, ifs, as⟩, _ | ⟨_, _⟩⟩ <;> first | (simp [chkE] at h; done) | skip
    simp only [chkE, Bool.and_eq_true, List.all_eq_true, decide_eq_true_eq] at h
    simp only [evE]
    obtain ⟨⟨⟨⟨⟨⟨⟨h0, h1⟩, htg⟩, h2⟩, h3⟩, h4⟩, h5⟩, h6⟩ := h
    subst h0
    refine db_plain G (de_comp G (blkOk_by h2) (di_of it _ tg G htg h1) h4 (fun i hi => by simpa using h3 i hi) (fun X' G' => ?_) (fun X' G' => (db_of elt _ G' h6).de) (setIt_ok h1))
    cases c with
    | none =>
      cases ifs with
      | nil => exact .inl ⟨rfl, by simp only [evK]⟩
      | cons _ _ => simp [chkTO] at h5
    | some c =>
      rcases ifs with _ | ⟨f, _ | ⟨_, _⟩⟩ <;> first | (simp [chkTO] at h5; done) | skip
      simp only [chkTO] at h5
      simp only [evK]
      exact .inr ⟨f, rfl, (db_of c _ G' h5).dt⟩
theorem dwA_of : ∀ (i : IE) (e1 e2 : Expr) (r : List Expr) (p : Pos) {ow sc : Scope} {W : WX} {X : Cx}, Good w T fuel k N ow sc W X → chkE T N sc i (.BoolOp .And (e1 :: e2 :: r) p) = true → DW w W X (.BoolOp .And (e1 :: e2 :: r) p) (fun env => evE (T.C fuel k) i env >>= truthM)
  | .and a b, e1, e2, r, p, ow, sc, W, X, G, h => by
    simp only [chkE, Bool.and_eq_true] at h
    simp only [evE]
    have D1 := db_of a _ G h.1
    cases r with
    | nil => exact dw_and D1.dt (dw_and1 (db_of b _ G h.2).dt)
    | cons e3 r => exact dw_and D1.dt (dwA_of b _ _ _ _ G h.2)
  | .lit _, e1, e2, r, p, ow, sc, W, X, G, h => by simp [chkE] at h
  | .var _, e1, e2, r, p, ow, sc, W, X, G, h => by simp [chkE] at h
  | .glob _, e1, e2, r, p, ow, sc, W, X, G, h => by simp [chkE] at h
  | .bin _ _ _, e1, e2, r, p, ow, sc, W, X, G, h => by simp [chkE] at h
  | .neg _, e1, e2, r, p, ow, sc, W, X, G, h => by simp [chkE] at h
  | .not _, e1, e2, r, p, ow, sc, W, X, G, h => by simp [chkE] at h
  | .or _ _, e1, e2, r, p, ow, sc, W, X, G, h => by simp [chkE] at h
  | .cmp _ _ _, e1, e2, r, p, ow, sc, W, X, G, h => by simp [chkE] at h
  | .chain _ _ _ _ _, e1, e2, r, p, ow, sc, W, X, G, h => by simp [chkE] at h
  | .ife _ _ _, e1, e2, r, p, ow, sc, W, X, G, h => by simp [chkE] at h
  | .tup _, e1, e2, r, p, ow, sc, W, X, G, h => by simp [chkE] at h
  | .lst _, e1, e2, r, p, ow, sc, W, X, G, h => by simp [chkE] at h
  | .dsp _, e1, e2, r, p, ow, sc, W, X, G, h => by simp [chkE] at h
  | .dcomp _ _ _ _ _ _, e1, e2, r, p, ow, sc, W, X, G, h => by simp [chkE] at h
  | .fld _ _, e1, e2, r, p, ow, sc, W, X, G, h => by simp [chkE] at h
  | .idx _ _, e1, e2, r, p, ow, sc, W, X, G, h => by simp [chkE] at h
  | .slc _ _ _, e1, e2, r, p, ow, sc, W, X, G, h => by simp [chkE] at h
  | .rev _, e1, e2, r, p, ow, sc, W, X, G, h => by simp [chkE] at h
  | .call _ _, e1, e2, r, p, ow, sc, W, X, G, h => by simp [chkE] at h
  | .bi _ _, e1, e2, r, p, ow, sc, W, X, G, h => by simp [chkE] at h
  | .isin _ _, e1, e2, r, p, ow, sc, W, X, G, h => by simp [chkE] at h
  | .bm _ _ _, e1, e2, r, p, ow, sc, W, X, G, h => by simp [chkE] at h
  | .comp _ _ _ _ _, e1, e2, r, p, ow, sc, W, X, G, h => by simp [chkE] at h
theorem dwO_of : ∀ (i : IE) (e1 e2 : Expr) (r : List Expr) (p : Pos) {ow sc : Scope} {W : WX} {X : Cx}, Good w T fuel k N ow sc W X → chkE T N sc i (.BoolOp .Or (e1 :: e2 :: r) p) = true → DW w W X (.BoolOp .Or (e1 :: e2 :: r) p) (fun env => evE (T.C fuel k) i env >>= truthM)
  | .or a b, e1, e2, r, p, ow, sc, W, X, G, h => by
    simp only [chkE, Bool.and_eq_true] at h
    simp only [evE]
    have D1 := db_of a _ G h.1
    cases r with
    | nil => exact dw_or D1.dt (dw_or1 (db_of b _ G h.2).dt)
    | cons e3 r => exact dw_or D1.dt (dwO_of b _ _ _ _ G h.2)
  | .lit _, e1, e2, r, p, ow, sc, W, X, G, h => by simp [chkE] at h
  | .var _, e1, e2, r, p, ow, sc, W, X, G, h => by simp [chkE] at h
  | .glob _, e1, e2, r, p, ow, sc, W, X, G, h => by simp [chkE] at h
  | .bin _ _ _, e1, e2, r, p, ow, sc, W, X, G, h => by simp [chkE] at h
  | .neg _, e1, e2, r, p, ow, sc, W, X, G, h => by simp [chkE] at h
  | .not _, e1, e2, r, p, ow, sc, W, X, G, h => by simp [chkE] at h
  | .and _ _, e1, e2, r, p, ow, sc, W, X, G, h => by simp [chkE] at h
  | .cmp _ _ _, e1, e2, r, p, ow, sc, W, X, G, h => by simp [chkE] at h
  | .chain _ _ _ _ _, e1, e2, r, p, ow, sc, W, X, G, h => by simp [chkE] at h
  | .ife _ _ _, e1, e2, r, p, ow, sc, W, X, G, h => by simp [chkE] at h
  | .tup _, e1, e2, r, p, ow, sc, W, X, G, h => by simp [chkE] at h
  | .lst _, e1, e2, r, p, ow, sc, W, X, G, h => by simp [chkE] at h
  | .dsp _, e1, e2, r, p, ow, sc, W, X, G, h => by simp [chkE] at h
  | .dcomp _ _ _ _ _ _, e1, e2, r, p, ow, sc, W, X, G, h => by simp [chkE] at h
  | .fld _ _, e1, e2, r, p, ow, sc, W, X, G, h => by simp [chkE] at h
  | .idx _ _, e1, e2, r, p, ow, sc, W, X, G, h => by simp [chkE] at h
  | .slc _ _ _, e1, e2, r, p, ow, sc, W, X, G, h => by simp [chkE] at h
  | .rev _, e1, e2, r, p, ow, sc, W, X, G, h => by simp [chkE] at h
  | .call _ _, e1, e2, r, p, ow, sc, W, X, G, h => by simp [chkE] at h
  | .bi _ _, e1, e2, r, p, ow, sc, W, X, G, h => by simp [chkE] at h
  | .isin _ _, e1, e2, r, p, ow, sc, W, X, G, h => by simp [chkE] at h
  | .bm _ _ _, e1, e2, r, p, ow, sc, W, X, G, h => by simp [chkE] at h
  | .comp _ _ _ _ _, e1, e2, r, p, ow, sc, W, X, G, h => by simp [chkE] at h
theorem da_of : ∀ (is : IEs) (es : List Expr) {ow sc : Scope} {W : WX} {X : Cx}, Good w T fuel k N ow sc W X → chkEs T N sc is es = true → DA w W X es (evEs (T.C fuel k) is)
  | .nil, es, ow, sc, W, X, G, h => by
    cases es with
    | cons _ _ => simp [chkEs] at h
    | nil => simp only [evEs]; exact da_nil
  | .cons i is, es, ow, sc, W, X, G, h => by
    cases es with
    | nil => simp [chkEs] at h
    | cons e es =>
      have hn := chkEs_star h
      simp only [chkEs, Bool.and_eq_true] at h
      simp only [evEs]
      exact da_cons (hn e List.mem_cons_self) (db_of i _ G h.1).de (da_of is _ G h.2)
theorem dp_of' : ∀ (ds : IDs) (ks : List (Option Expr)) (vs : List Expr) (pos : Pos) {ow sc : Scope} {W : WX} {X : Cx}, Good w T fuel k N ow sc W X → chkD T N sc ds ks vs = true → DPs w W X pos ks vs (evD (T.C fuel k) ds)
  | .nil, ks, vs, pos, ow, sc, W, X, G, h => by
    cases ks <;> cases vs <;> first | (simp [chkD] at h; done) | skip
    simp only [evD]
    exact dps_nil
  | .cons i e ds, ks, vs, pos, ow, sc, W, X, G, h => by
    cases ks with
    | nil => simp [chkD] at h
    | cons kx ks =>
      cases kx with
      | none => simp [chkD] at h
      | some kx =>
        cases vs with
        | nil => simp [chkD] at h
        | cons vx vs =>
          simp only [chkD, Bool.and_eq_true] at h
          simp only [evD]
          exact dps_cons (db_of i _ G h.1.1).de (db_of e _ G h.1.2).de (dp_of' ds ks vs pos G h.2)
theorem do_of : ∀ (o : IO) (e : Option Expr) {ow sc : Scope} {W : WX} {X : Cx}, Good w T fuel k N ow sc W X → chkO T N sc o e = true → DO w W X e (evO (T.C fuel k) o)
  | .none, e, ow, sc, W, X, G, h => by
    cases e with
    | some _ => simp [chkO] at h
    | none => simp only [evO]; exact do_none
  | .some i, e, ow, sc, W, X, G, h => by
    cases e with
    | none => simp [chkO] at h
    | some e =>
      simp only [chkO] at h
      simp only [evO]
      exact do_some (db_of i _ G h).de
theorem di_of : ∀ (i : II) (e tg : Expr) {ow sc : Scope} {W : WX} {X : Cx}, Good w T fuel k N ow sc W X → tgOk i tg = true → chkI T N sc i e = true → DI w W X tg e (evI (T.C fuel k) i)
  | .val a, e, tg, ow, sc, W, X, G, htg, h => by
    simp only [chkI] at h
    simp only [evI]
    exact di_val G (db_of a _ G h).de
  | .range1 a, e, tg, ow, sc, W, X, G, htg, h => by
    cases e <;> first | (simp [chkI] at h; done) | skip
    rename_i fe xs kw p
    cases fe <;> first | (simp [chkI] at h; done) | skip
    rcases xs with _ | ⟨x, _ | ⟨_, _⟩⟩ <;> first | (simp [chkI] at h; done) | skip
    cases kw <;> first | (simp [chkI] at h; done) | skip
    simp only [chkI, Bool.and_eq_true, decide_eq_true_eq, List.contains_eq_mem] at h
    simp only [evI]
    obtain ⟨⟨⟨h1, h2⟩, h3⟩, h4⟩ := h
    subst h1
    exact di_range1 G h2 h3 (fun y q z => by subst z; exact chkE_star h4) (db_of a _ G h4).de
  | .range2 a b, e, tg, ow, sc, W, X, G, htg, h => by
    cases e <;> first | (simp [chkI] at h; done) | skip
    rename_i fe xs kw p
    cases fe <;> first | (simp [chkI] at h; done) | skip
    rcases xs with _ | ⟨x, _ | ⟨y, _ | ⟨_, _⟩⟩⟩ <;> first | (simp [chkI] at h; done) | skip
    cases kw <;> first | (simp [chkI] at h; done) | skip
    simp only [chkI, Bool.and_eq_true, decide_eq_true_eq, List.contains_eq_mem] at h
    simp only [evI]
    obtain ⟨⟨⟨⟨h1, h2⟩, h3⟩, h4⟩, h5⟩ := h
    subst h1
    exact di_range2 G h2 h3 (fun y q z => by subst z; exact chkE_star h4) (fun y q z => by subst z; exact chkE_star h5) (db_of a _ G h4).de (db_of b _ G h5).de
  | .range3 a b c, e, tg, ow, sc, W, X, G, htg, h => by
    cases e <;> first | (simp [chkI] at h; done) | skip
    rename_i fe xs kw p
    cases fe <;> first | (simp [chkI] at h; done) | skip
    rcases xs with _ | ⟨x, _ | ⟨y, _ | ⟨z, _ | ⟨_, _⟩⟩⟩⟩ <;> first | (simp [chkI] at h; done) | skip
    cases kw <;> first | (simp [chkI] at h; done) | skip
    simp only [chkI, Bool.and_eq_true, decide_eq_true_eq, List.contains_eq_mem] at h
    simp only [evI]
    obtain ⟨⟨⟨⟨⟨h1, h2⟩, h3⟩, h4⟩, h5⟩, h6⟩ := h
    subst h1
    exact di_range3 G h2 h3 (fun y q z => by subst z; exact chkE_star h4) (fun y q z => by subst z; exact chkE_star h5) (fun y q z => by subst z; exact chkE_star h6) (db_of a _ G h4).de (db_of b _ G h5).de (db_of c _ G h6).de
  | .enum a, e, tg, ow, sc, W, X, G, htg, h => by
    cases e <;> first | (simp [chkI] at h; done) | skip
    rename_i fe xs kw p
    cases fe <;> first | (simp [chkI] at h; done) | skip
    rcases xs with _ | ⟨x, _ | ⟨_, _⟩⟩ <;> first | (simp [chkI] at h; done) | skip
    cases kw <;> first | (simp [chkI] at h; done) | skip
    cases tg <;> first | (simp [tgOk] at htg; done) | skip
    simp only [chkI, Bool.and_eq_true, decide_eq_true_eq, List.contains_eq_mem] at h
    simp only [evI]
    obtain ⟨⟨⟨h1, h2⟩, h3⟩, h4⟩ := h
    subst h1
    exact di_enum G h2 h3 (fun y q z => by subst z; exact chkE_star h4) (db_of a _ G h4).de
end
end
end Pd

/-! Pd, part 15: statements. -/
namespace Pd
open PySem PySem.Spec L2

/-- what is wanted behind a statement -/
def PostS (w : Wd) (W : WX) (D : Ends) (ρ : List Addr) (H : Hp) (r : RS) : Prop :=
  match r with
  | .nx env S => ∀ σ' ρ' H', Ext ρ H ρ' H' → RepE w ρ' H' env σ' → RepS w ρ' H' S → D.nx σ' H'
  | .bk env S => ∀ σ' ρ' H', Ext ρ H ρ' H' → RepE w ρ' H' env σ' → RepS w ρ' H' S → D.bk σ' H'
  | .ct env S => ∀ σ' ρ' H', Ext ρ H ρ' H' → RepE w ρ' H' env σ' → RepS w ρ' H' S → D.ct σ' H'
  | .rt v S => ∀ x ρ' H', Ext ρ H ρ' H' → RepV w ρ' H' v x → RepS w ρ' H' S → D.rt x H'
  | .exc x env S => ∀ cls d σ' ρ' H', Ext ρ H ρ' H' → RepX w ρ' H' x cls d → RepE w ρ' H' env σ' → RepS w ρ' H' S → W cls d σ' H'
  | .bad => False
theorem PostS.later {w : Wd} {W : WX} {D : Ends} {ρ ρ1 : List Addr} {H H1 : Hp} {r : RS} (e : Ext ρ H ρ1 H1) (h : PostS w W D ρ H r) : PostS w W D ρ1 H1 r := by
  cases r with
  | nx env S => exact fun σ' ρ' H' e1 => h σ' ρ' H' (e.trans e1)
  | bk env S => exact fun σ' ρ' H' e1 => h σ' ρ' H' (e.trans e1)
  | ct env S => exact fun σ' ρ' H' e1 => h σ' ρ' H' (e.trans e1)
  | rt v S => exact fun x ρ' H' e1 => h x ρ' H' (e.trans e1)
  | exc x env S => exact fun c d σ' ρ' H' e1 => h c d σ' ρ' H' (e.trans e1)
  | bad => exact h
/-- an expression, then the rest -/
theorem PostS.bind {α β : Type} {w : Wd} {W : WX} {D : Ends} {σ : L2.St} {rel : List Addr → Hp → α → β → Prop} {ρ : List Addr} {H : Hp} {env : Env} {r : Res α} {f : α → Store → RS} (re : RepE w ρ H env σ) (h : PostS w W D ρ H (r.then env f)) :
    Post w W σ rel ρ H r (fun x H1 => ∃ v ρ1 S1, Ext ρ H ρ1 H1 ∧ rel ρ1 H1 v x ∧ RepS w ρ1 H1 S1 ∧ RepE w ρ1 H1 env σ ∧ PostS w W D ρ1 H1 (f v S1)) := by
  cases r with
  | ok v S1 => exact fun x ρ1 H1 e1 e2 e3 => ⟨v, ρ1, S1, e1, e2, e3, re.ext e1, PostS.later (r := f v S1) e1 h⟩
  | exc x S1 => exact fun c d ρ' H' e1 e2 e3 => h c d σ ρ' H' e1 e2 (re.ext e1) e3
  | bad => exact h
theorem PostS.nx {w : Wd} {W : WX} {D : Ends} {ρ : List Addr} {σ : L2.St} {H : Hp} {env : Env} {S : Store} (h : PostS w W D ρ H (.nx env S)) (re : RepE w ρ H env σ) (rs : RepS w ρ H S) : D.nx σ H := h σ ρ H (Ext.refl _ _) re rs
theorem PostS.ends {w : Wd} {W : WX} {D D' : Ends} {ρ : List Addr} {H : Hp} {r : RS} (h : PostS w W D ρ H r) (h1 : ∀ env S, r = .nx env S → ∀ σ' ρ' H', Ext ρ H ρ' H' → RepE w ρ' H' env σ' → RepS w ρ' H' S → D.nx σ' H' → D'.nx σ' H')
    (h2 : ∀ σ H, D.bk σ H → D'.bk σ H) (h3 : ∀ σ H, D.ct σ H → D'.ct σ H) (h4 : ∀ x H, D.rt x H → D'.rt x H) : PostS w W D' ρ H r := by
  cases r with
  | nx env S => exact fun σ' ρ' H' e1 e2 e3 => h1 env S rfl σ' ρ' H' e1 e2 e3 (h σ' ρ' H' e1 e2 e3)
  | bk env S => exact fun σ' ρ' H' e1 e2 e3 => h2 _ _ (h σ' ρ' H' e1 e2 e3)
  | ct env S => exact fun σ' ρ' H' e1 e2 e3 => h3 _ _ (h σ' ρ' H' e1 e2 e3)
  | rt v S => exact fun σ' ρ' H' e1 e2 e3 => h4 _ _ (h σ' ρ' H' e1 e2 e3)
  | exc x env S => exact h
  | bad => exact h
structure DS (w : Wd) (W : WX) (X : Cx) (st : Stmt) (m : Env → Store → RS) : Prop where
  ex : ∃ t, PS X st t ∧ ∀ ρ σ H env S D, RepE w ρ H env σ → RepS w ρ H S → PostS w W D ρ H (m env S) → t D σ H
structure DSs (w : Wd) (W : WX) (X : Cx) (sts : List Stmt) (m : Env → Store → RS) : Prop where
  ex : ∃ t, PSs X sts t ∧ ∀ ρ σ H env S D, RepE w ρ H env σ → RepS w ρ H S → PostS w W D ρ H (m env S) → t D σ H
/-- the context of a def's body -/
structure GoodS (w : Wd) (T : Tab) (fuel k : Nat) (N : List Str) (sc : Scope) (W : WX) (X : Cx) : Prop extends Good w T fuel k N sc sc W X where
  ps : PassesOwn (model X.prog X.w) X.A X.env X.xe
  kind : sc.kind = .function

section
variable {w : Wd} {T : Tab} {fuel k : Nat} {N : List Str} {sc : Scope} {W : WX} {X : Cx}

theorem noLc {v : Expr} {t : Option Expr} {l : Nat} {env : PySem.Env} (h : isLc v = false) : swapsWith v t l env = pure false := by
  cases v <;> first | rfl | cases h
/-- a comprehension that is stored as any value -/
theorem lcStay {v : Expr} {x : Str} {px : Pos} {l : Nat} {env : PySem.Env} {i : IE} (hv : chkE T N sc i v = true) (hs : env.scope = sc) (h : lcSwap sc x px v = false) : swapsWith v (some (.Name x px)) l env = pure false := by
  have key : ∀ (b : Bool) (p : Pos) (z : Scope), (plB sc x && (px.line == p.line) && !(z.names.any fun y => y.1 == x && (y.2 == .local || y.2 == .cell))) = false →
      (b && env.kindOf x == some .local && px.line == p.line && !(z.names.any fun y => y.1 == x && (y.2 == .local || y.2 == .cell))) = false := by
    intro b p z h
    have e : (env.kindOf x == some NameKind.local) = plB sc x := by
      unfold PySem.Env.kindOf plB
      rw [hs]
      cases sc.names.lookup x with
      | none => rfl
      | some k => cases k <;> rfl
    rw [e]
    cases b
    · rfl
    · simpa using h
  cases v <;> first | rfl | skip
  · rename_i elt gs z p
    exact congrArg pure (key (env.blockKind == ScopeKind.function) p z h)
  · rename_i elt gs z p
    exfalso
    cases i <;> simp [chkE] at hv
  · rename_i kx vx gs z p
    exact congrArg pure (key (env.blockKind == ScopeKind.function) p z h)
theorem ds_set (G : GoodS w T fuel k N sc W X) {i : Nat} {x : Str} {e : Expr} {m : Env → M Val} {px pos : Pos} (hi : N[i]? = some x) (hx : stB sc sc x = true) (hl : ∀ l, swapsWith e (some (.Name x px)) l X.env = pure false) (h : DE w W X e m) :
    DS w W X (.Assign [.Name x px] e pos) (fun env S => (m env S).then env fun v S => .nx (envSet env i v) S) := by
  obtain ⟨t, pt, q⟩ := h.ex
  obtain ⟨h1, h2⟩ := G.hst x hx
  refine ⟨_, ps_set G.nd (by rw [G.hN]; exact hi) h1 pt (hl _) h2, fun ρ σ H env S D re rs p => ?_⟩
  refine q ρ σ H env S _ re rs ((PostS.bind re p).imp fun y H1 ⟨v, ρ1, S1, e1, r1, s1, re1, p1⟩ => ?_)
  exact p1.nx (re1.set r1 i) s1
/-- a list comprehension to a plain local, on one line -/
theorem ds_setLc (G : GoodS w T fuel k N sc W X) {i : Nat} {x : Str} {elt tg iter : Expr} {ifs : List Expr} {scope : Scope} {own : List (Str × Nat)} {px pos cpos : Pos} {t : IT} {mi : Env → M Src} {mk : Env → M Bool} {me : Env → M Val}
    (hx : N[i]? = some x) (hsw : lcSwap sc x px (.ListComp elt [⟨tg, iter, ifs, 0⟩] scope cpos) = true)
    (ok : BlkOk N sc scope own) (hi : DI w W X tg iter mi) (ht : chkT T N scope (relS scope sc) t tg = true) (ho : ∀ i ∈ slotsT t, i ∈ own.map (·.2))
    (hk : ∀ X', Good w T fuel k N scope (relS scope sc) WF X' → (ifs = [] ∧ mk = fun _ => pure true) ∨ ∃ c, ifs = [c] ∧ DT w WF X' c mk) (he : ∀ X', Good w T fuel k N scope (relS scope sc) WF X' → DE w WF X' elt me)
    (hs : ∀ x, foldedSetIterable iter X.env x = pure x) :
    DS w W X (.Assign [.Name x px] (.ListComp elt [⟨tg, iter, ifs, 0⟩] scope cpos) pos) (fun env S => (compM mi (own.map (·.2)) t mk me env S).then env fun v S => .nx (envSet env i v) S) := by
  obtain ⟨ti, pi, qi⟩ := hi.ex
  have B := fun s H C cl fp => good_blk G.toGood s H scope cl C fp
  simp only [lcSwap, Bool.and_eq_true, Bool.not_eq_true'] at hsw
  have hy := pl_of hsw.1.1
  refine ⟨_, ps_setLc (i := i) (own := own) (g := gOf w t) (tt := ttOf w WF mk) (te := tOf w WF me) G.calm G.nd (by rw [G.hN]; exact hx) (by rw [G.hsc]; exact hy) (sw_true (by rw [G.hsc]; exact G.kind) (by rw [G.hsc]; exact hy) hsw.1.2 hsw.2) pi (by rw [G.hN, G.hsc]; exact ok)
    (fun s H C cl fp => pg_of (B s H C cl fp) ht) (fun s H C cl fp => pts_of (hk _ (B s H C cl fp))) (fun s H C cl fp => (he _ (B s H C cl fp)).pe) hs, fun ρ σ H env S D re rs p => ?_⟩
  refine lc_ok ho qi re rs ((PostS.bind re p).imp fun y H1 ⟨v, ρ1, S1, e1, r1, s1, re1, p1⟩ => ?_)
  exact p1.nx (re1.set r1 i) s1
theorem noSwap {ts : List Expr} {j : Nat} {p : Pos} {v : Expr} {env : PySem.Env} (h : foldTup v = true) : swappedStores [.Tuple ts j p] v env = pure none := by
  cases v <;> first | rfl | skip
  rename_i vs j2 p2
  unfold swappedStores
  unfold foldTup at h
  dsimp only at h ⊢
  split
  · rfl
  · split
    · rfl
    · split
      · rfl
      · first | rfl | rw [if_pos h]
theorem ds_asg (G : GoodS w T fuel k N sc W X) {t : IT} {ts : List Expr} {j : Nat} {tp pos : Pos} {e : Expr} {m : Env → M Val} (ht : chkT T N sc sc t (.Tuple ts j tp) = true) (hl : isLc e = false) (hw : foldTup e = true) (h : DE w W X e m) :
    DS w W X (.Assign [.Tuple ts j tp] e pos) (fun env S => (m env S).then env fun v S => match evT S t v env with
      | some env => .nx env S
      | none => .bad) := by
  obtain ⟨te, pt, q⟩ := h.ex
  refine ⟨_, ps_asg pt (pg_of G.toGood ht) (by unfold swapsWithSole; exact noLc hl) (noSwap hw), fun ρ σ H env S D re rs p => ?_⟩
  refine q ρ σ H env S _ re rs ((PostS.bind re p).imp fun y H1 ⟨v, ρ1, S1, e1, r1, s1, re1, p1⟩ => ?_)
  split at p1
  · rename_i env' he
    exact ⟨ρ1, S1, env, env', v, re1, r1, s1, he, fun σ' r' _ _ => p1.nx r' s1⟩
  · exact p1.elim
theorem swap2 {x y : Str} {px py pt p2 : Pos} {j k2 : Nat} {u v : Expr} {env : PySem.Env} (hk : env.scope.kind = .function) (hx : env.scope.names.lookup x = some .local) (hy : env.scope.names.lookup y = some .local) (hxy : x ≠ y) (hl : (px.line == py.line) = true)
    (h1 : [u, v].all (foldedForSure 8) = false) (h2 : [u, v].all (constantsAlone 8) = false) (su : ∀ x p, u ≠ .Starred x p) (sv : ∀ x p, v ≠ .Starred x p) :
    swappedStores [.Tuple [.Name x px, .Name y py] j pt] (.Tuple [u, v] k2 p2) env = pure (some [x, y]) := by
  have hb : env.blockKind = .function := by unfold PySem.Env.blockKind; rw [hk]; rfl
  have kx : (env.kindOf x == some .local) = true := by unfold PySem.Env.kindOf; rw [hx]; rfl
  have ky : (env.kindOf y == some .local) = true := by unfold PySem.Env.kindOf; rw [hy]; rfl
  have hl' : py.line = px.line := (eq_of_beq hl).symm
  have hn : [x, y].eraseDups.length = 2 := by
    have : (y == x) = false := by simpa using fun z => hxy z.symm
    simp [List.eraseDups_cons, this]
  unfold swappedStores
  simp only [hb, h1, h2]
  simp [kx, ky, Expr.pos, hl', hn, List.filterMap]
theorem ds_par (G : GoodS w T fuel k N sc W X) {i j : Nat} {x y : Str} {u v : Expr} {mu mv : Env → M Val} {px py pt p2 pos : Pos} {kt k2 : Nat} (hi : N[i]? = some x) (hj : N[j]? = some y) (hij : i ≠ j) (hxy : x ≠ y) (hx : plB sc x = true) (hy : plB sc y = true) (hl : (px.line == py.line) = true)
    (h1 : [u, v].all (foldedForSure 8) = false) (h2 : [u, v].all (constantsAlone 8) = false) (su : ∀ x p, u ≠ .Starred x p) (sv : ∀ x p, v ≠ .Starred x p) (hu : DE w W X u mu) (hv : DE w W X v mv) :
    DS w W X (.Assign [.Tuple [.Name x px, .Name y py] kt pt] (.Tuple [u, v] k2 p2) pos) (fun env S => (mu env S).then env fun a S => (mv env S).then env fun b S => .nx (envSet (envSet env i a) j b) S) := by
  obtain ⟨tu, pu, qu⟩ := hu.ex
  obtain ⟨tv, pv, qv⟩ := hv.ex
  have lx := pl_of hx
  have ly := pl_of hy
  refine ⟨_, ps_par (i := i) (j := j) G.calm G.nd (by rw [G.hN]; exact hi) (by rw [G.hN]; exact hj) hij (by rw [G.hsc]; exact lx) (by rw [G.hsc]; exact ly) (pa_cons pu (pa_cons pv pa_nil (star_cons sv)) (star_cons su))
    (swap2 (by rw [G.hsc]; exact G.kind) (by rw [G.hsc]; exact lx) (by rw [G.hsc]; exact ly) hxy hl h1 h2 su sv), fun ρ σ H env S D re rs p => ?_⟩
  refine qu ρ σ H env S _ re rs ((PostS.bind re p).imp fun a H1 ⟨va, ρ1, S1, e1, r1, s1, re1, p1⟩ => ?_)
  refine qv ρ1 σ H1 env S1 _ re1 s1 ((PostS.bind re1 p1).imp fun b H2 ⟨vb, ρ2, S2, e2, r2, s2, re2, p2⟩ => ?_)
  exact ⟨a, b, rfl, p2.nx ((re2.set (r1.ext e2) i).set r2 j) s2⟩
end
end Pd

/-! Pd, part 16: statements, further. -/
namespace Pd
open PySem PySem.Spec L2

section
variable {w : Wd} {T : Tab} {fuel k : Nat} {N : List Str} {sc : Scope} {W : WX} {X : Cx}
/-- o[i] = v: a list's place, a dict's key -/
def rSetA : TSet := fun o i v H Q => rSetL o i v H Q ∨ ∃ a H', o = .ref a ∧ DPut H a i v H' ∧ Q H'
theorem set_all (hu : X.A.units + 1 < cLine) : PSet X rSetA := by
  intro pins s σ H o i v ov iv u Q I ro ri rv h
  rcases h with h | ⟨a, H', rfl, g, q⟩
  · exact set_list pins s σ H o i v ov iv u Q I ro ri rv h
  · cases ro
    exact d_setItem hu I g ri rv fun s' I' => ⟨H', I', q⟩
theorem set_ok {ρ : List Addr} {σ : L2.St} {H : Hp} {S : Store} {o i v : Val} {x y z : V} {Q : Unit → Hp → Prop} (r1 : RepV w ρ H o x) (r2 : RepV w ρ H i y) (r3 : RepV w ρ H v z) (rs : RepS w ρ H S) (p : Post w W σ (fun _ _ _ _ => True) ρ H (setV o i v S) Q) : rSetA x y z H (Q ()) := by
  unfold setV at p
  cases o <;> dsimp only at p <;> first | exact p.elim | skip
  rename_i d
  simp only [RepV] at r1
  obtain ⟨a, rfl, ha⟩ := r1
  split at p
  · rename_i xs e
    obtain ⟨vs, h1, h2⟩ := lst_at rs ha e
    cases i <;> dsimp only at p <;> first | exact p.elim | skip
    rename_i n
    simp only [RepV] at r2
    subst r2
    split at p
    · rename_i j hj
      refine .inl ⟨a, vs, n, j, rfl, rfl, h1, by rw [h2.length]; exact hj, ?_⟩
      have E : Ext ρ H ρ (upd H a (.lst (vs.set j z))) := Ext.set ha
      exact p () _ _ E True.intro (rs.set ha ⟨_, rfl, (RepVs.set r3 j h2).ext E⟩)
    · exact p.elim
  · rename_i kvs e
    obtain ⟨vs, h1, h2⟩ := dct_at rs ha e
    split at p
    · rename_i q hq
      have ey := key_kV hq r2
      subst ey
      split at p
      · rename_i hz
        have hl : vs.length < sizeLine := by rw [h2.length, ← size_eq]; exact hz
        refine .inr ⟨a, _, rfl, DPut.k h1 hl, ?_⟩
        have E : Ext ρ H ρ (upd H a (.dK (putK vs q z))) := Ext.set ha
        exact p () _ _ E True.intro (rs.set ha ⟨_, rfl, (h2.put r3).ext E⟩)
      · exact p.elim
    · exact p.elim
  · exact p.elim
theorem ds_idx (G : GoodS w T fuel k N sc W X) {o i e : Expr} {mo mi me : Env → M Val} {tp pos : Pos} (hs : ∀ l u st p, i ≠ .Slice l u st p) (hl : isLc e = false) (ho : DE w W X o mo) (hi : DE w W X i mi) (he : DE w W X e me) :
    DS w W X (.Assign [.Subscript o i tp] e pos) (fun env S => (me env S).then env fun v S => (mo env S).then env fun x S => (mi env S).then env fun y S => (setV x y v S).then env fun _ S => .nx env S) := by
  obtain ⟨to, po, qo⟩ := ho.ex
  obtain ⟨ti, pi, qi⟩ := hi.ex
  obtain ⟨te, pe, qe⟩ := he.ex
  have hrel : ∀ v, assign (.Subscript o i tp) X.env v = (do
      let ov ← holding [v] (eval o X.env)
      let iv ← holding [v, ov] (eval i X.env)
      standAt tp
      holding [v, ov, iv] (setItem ov iv v)
      release [v, ov, iv] []) := by
    intro v
    cases i <;> first | rfl | exact absurd rfl (hs _ _ _ _)
  refine ⟨_, ps_asg pe (pg_sub po pi (set_all (hu_of G.room)) hrel) (by unfold swapsWithSole; exact noLc hl) (by rfl), fun ρ σ H env S D re rs p => ?_⟩
  refine qe ρ σ H env S _ re rs ((PostS.bind re p).imp fun z H1 ⟨v, ρ1, S1, e1, r1, s1, re1, p1⟩ => ?_)
  refine qo ρ1 σ H1 env S1 _ re1 s1 ((PostS.bind re1 p1).imp fun x H2 ⟨u, ρ2, S2, e2, r2, s2, re2, p2⟩ => ?_)
  refine qi ρ2 σ H2 env S2 _ re2 s2 ((PostS.bind re2 p2).imp fun y H3 ⟨q, ρ3, S3, e3, r3, s3, re3, p3⟩ => ?_)
  refine set_ok (W := W) (σ := σ) (Q := fun _ H4 => D.nx σ H4) (r2.ext e3) r3 (r1.ext (e2.trans e3)) s3 ((PostS.bind re3 p3).imp fun _ H4 ⟨_, ρ4, S4, e4, _, s4, re4, p4⟩ => ?_)
  exact p4.nx re4 s4
def rAug : Bop → TIp
  | .add => ipI fun i j => i + j
  | .sub => ipI fun i j => i - j
  | _ => fun _ _ _ _ => False
theorem ip_all {op : Bop} {o : Operator} (h : opB op o = true) : PIp X o (rAug op) := by
  cases op <;> cases o <;> first | (cases h; done) | exact ip_add | exact ip_sub | (intro _ _ _ _ _ _ _ _ _ _ _ _ z; exact z.elim)
theorem ds_aug (G : GoodS w T fuel k N sc W X) {i : Nat} {x : Str} {e : Expr} {m : Env → M Val} {op : Bop} {o : Operator} {px pos : Pos} (ho : opB op o = true) (hi : N[i]? = some x) (hx : stB sc sc x = true) (h : DE w W X e m) :
    DS w W X (.AugAssign (.Name x px) o e pos) (fun env S => match envGet env i with
      | none => .bad
      | some x => (m env S).then env fun y S => (augV op x y S).then env fun v S => .nx (envSet env i v) S) := by
  obtain ⟨t, pt, q⟩ := h.ex
  obtain ⟨h1, h2⟩ := G.hst x hx
  refine ⟨_, ps_aug G.nd (by rw [G.hN]; exact hi) h1 pt (ip_all ho) h2, fun ρ σ H env S D re rs p => ?_⟩
  cases eg : envGet env i with
  | none => rw [eg] at p; exact p.elim
  | some v =>
    rw [eg] at p
    obtain ⟨z, e1, e2⟩ := re.get eg
    refine ⟨z, e1, ?_⟩
    refine q ρ σ H env S _ re rs ((PostS.bind re p).imp fun y H1 ⟨u, ρ1, S1, x1, r1, s1, re1, p1⟩ => ?_)
    have rz := e2.ext x1
    unfold augV at p1
    split at p1
    · simp only [RepV] at rz r1
      exact ⟨_, _, rz, r1, PostS.nx p1 (re1.set (by simp [RepV]) i) s1⟩
    · simp only [RepV] at rz r1
      exact ⟨_, _, rz, r1, PostS.nx p1 (re1.set (by simp [RepV]) i) s1⟩
    · exact p1.elim
theorem ds_ex (G : GoodS w T fuel k N sc W X) {e : Expr} {m : Env → M Val} {pos : Pos} (hl : isLc e = false) (h : DE w W X e m) : DS w W X (.Expr e pos) (fun env S => (m env S).then env fun _ S => .nx env S) := by
  obtain ⟨t, pt, q⟩ := h.ex
  refine ⟨_, ps_expr pt (noLc hl), fun ρ σ H env S D re rs p => ?_⟩
  exact q ρ σ H env S _ re rs ((PostS.bind re p).imp fun y H1 ⟨v, ρ1, S1, e1, r1, s1, re1, p1⟩ => p1.nx re1 s1)
theorem ds_ret {e : Expr} {m : Env → M Val} {pos : Pos} (h : DE w W X e m) : DS w W X (.Return (some e) pos) (fun env S => (m env S).then env fun v S => .rt v S) := by
  obtain ⟨t, pt, q⟩ := h.ex
  refine ⟨_, ps_ret pt, fun ρ σ H env S D re rs p => ?_⟩
  exact q ρ σ H env S _ re rs ((PostS.bind re p).imp fun y H1 ⟨v, ρ1, S1, e1, r1, s1, re1, p1⟩ => p1 y ρ1 H1 (Ext.refl _ _) r1 s1)
theorem ds_retN {pos : Pos} : DS w W X (.Return none pos) (fun env S => .rt .non S) :=
  ⟨_, ps_retN, fun ρ σ H env S D re rs p => p .non ρ H (Ext.refl _ _) (by simp [RepV]) rs⟩
theorem ds_pass {pos : Pos} : DS w W X (.Pass pos) (fun env S => .nx env S) := ⟨_, ps_pass, fun ρ σ H env S D re rs p => p.nx re rs⟩
theorem ds_brk {pos : Pos} : DS w W X (.Break pos) (fun env S => .bk env S) := ⟨_, ps_break, fun ρ σ H env S D re rs p => p σ ρ H (Ext.refl _ _) re rs⟩
theorem ds_cont {pos : Pos} : DS w W X (.Continue pos) (fun env S => .ct env S) := ⟨_, ps_continue, fun ρ σ H env S D re rs p => p σ ρ H (Ext.refl _ _) re rs⟩
theorem then_then {α β : Type} (m : Res α) (g : α → M β) (env : Env) (f : β → Store → RS) : (m.then env fun v S => (g v S).then env f) = (match m with | .ok a S => g a S | .exc x S => .exc x S | .bad => .bad : Res β).then env f := by
  cases m <;> rfl
theorem ds_ife {c : Expr} {a b : List Stmt} {mc : Env → M Val} {ma mb : Env → Store → RS} {pos : Pos} (hc : DT w W X c (fun env => mc env >>= truthM)) (ha : DSs w W X a ma) (hb : DSs w W X b mb) :
    DS w W X (.If c a b pos) (fun env S => (mc env S).then env fun v S => (truthM v S).then env fun t S => if t then ma env S else mb env S) := by
  obtain ⟨tc, pc, qc⟩ := hc.ex
  obtain ⟨ta, pa, qa⟩ := ha.ex
  obtain ⟨tb, pb, qb⟩ := hb.ex
  refine ⟨_, ps_if pc pa pb, fun ρ σ H env S D re rs p => ?_⟩
  rw [then_then] at p
  refine qc ρ σ H env S _ re rs ((PostS.bind (rel := fun _ _ a b => a = b) re p).imp fun t H1 ⟨v, ρ1, S1, e1, r1, s1, re1, p1⟩ => ?_)
  subst r1
  cases v with
  | true => exact qa ρ1 σ H1 env S1 D re1 s1 p1
  | false => exact qb ρ1 σ H1 env S1 D re1 s1 p1
theorem dss_nil : DSs w W X [] (fun env S => .nx env S) := ⟨_, pss_nil, fun ρ σ H env S D re rs p => p.nx re rs⟩
theorem dss_cons {st : Stmt} {sts : List Stmt} {m ms : Env → Store → RS} (h : DS w W X st m) (hs : DSs w W X sts ms) : DSs w W X (st :: sts) (fun env S => (m env S).seq ms) := by
  obtain ⟨t, pt, q⟩ := h.ex
  obtain ⟨ts, pts, qs⟩ := hs.ex
  refine ⟨_, pss_cons pt pts, fun ρ σ H env S D re rs p => ?_⟩
  refine q ρ σ H env S _ re rs ?_
  cases e : m env S with
  | nx env1 S1 =>
    rw [e] at p
    exact fun σ' ρ' H' e1 e2 e3 => qs ρ' σ' H' env1 S1 D e2 e3 (PostS.later e1 p)
  | bk env1 S1 => rw [e] at p; exact p
  | ct env1 S1 => rw [e] at p; exact p
  | rt v S1 => rw [e] at p; exact p
  | exc x env1 S1 => rw [e] at p; exact p
  | bad => rw [e] at p; exact p
end
end Pd

/-! Pd: first, *middle, last = a tuple; three stores at once. -/
namespace Pd
open PySem PySem.Spec L2

section
variable {prog : Program} {w : World} {A : Around} {E : Value → Shared → Prop} {s : Shared}
theorem star_items {l : Addr} {items : Array Value} {n i : Nat} {Q : List Value → Shared → Prop} (hl : PyProof.Rows.IsTup s.heap l items) (hh : A.handled = none) (hi : i < n) (hn : n ≤ items.size + 1) (hz : items.size ≤ 16384)
    (h : ∀ (h1 : Heap) (tk : Nat), (∀ b o, s.heap.get? b = some o → h1.get? b = some o) →
      Q (items.toList.take i ++ [.ref h1.objs.size] ++ (items.toList.drop i).drop (items.size + 1 - n)) { s with heap := h1.push { cls := .type "list", data := .seq ((items.toList.drop i).take (items.size + 1 - n)).toArray }, toks := tk }) :
    wpAny (model prog w) A (unpackItems (.ref l) n (some i)) Q E s := by
  obtain ⟨ol0, hol0, _⟩ := id hl
  have hlt : l ≠ s.heap.objs.size := Nat.ne_of_lt (Heap.lt_size hol0)
  have hrl : (items.toList.drop i).length = items.size - i := by rw [List.length_drop, Array.length_toList]
  have hfl : (items.toList.take i).length = i := by rw [List.length_take, Array.length_toList]; omega
  unfold unpackItems
  refine wpAny_bind ?_
  unfold notIterableAtAll
  refine wpAny_bind (wpAny_specialOf hl.typeIs PyProof.Rows.slot_tuple_iter.lookup (wpAny_pure ?_))
  simp only [Bool.false_eq_true, if_false]
  refine wpAny_bind (wpAny_holding (PyProof.Rows.iter_tuple hl ?_))
  refine wpAny_bind (wpAny_holding (PyProof.Rows.draw_tuple hlt i 0 _ _ ⟨_, Heap.get?_push_size _ rfl, rfl, rfl⟩ (hl.push _) (by omega) fun h1 hit1 sb1 => ?_))
  have hl1 : PyProof.Rows.IsTup h1 l items := (hl.push _).extBut sb1.extBut hlt
  rw [Nat.zero_add] at hit1
  obtain ⟨oi, hoi, _⟩ := id hit1
  obtain ⟨ol, hol, _⟩ := id hl1
  rw [List.drop_zero, if_neg (by rw [hfl]; omega)]
  refine wpAny_bind (wpAny_holding (PySem.W.kun_collect (s := { s with heap := h1 }) (T := "tuple_iterator") (.inr (.inr (.inr rfl))) (Walks.tuple (A := A.in1) hh s.heap.objs.size l hlt items) (fun j u st => st.1.typeIs) (k := i) (by omega) ⟨hit1, hl1⟩ (Heap.lt_size hoi) (Heap.lt_size hol) (fun h2 tk hk => ?_) (by rw [sizeLine_eq]; omega)))
  have hmid : (items.toList.drop i).length - (n - 1 - i) = items.size + 1 - n := by rw [hrl]; omega
  show wpAny _ _ (if (items.toList.drop i).length < n - 1 - i then _ else _) _ _ _
  rw [if_neg (by rw [hrl]; omega)]
  show wpAny _ _ (newList ((items.toList.drop i).take ((items.toList.drop i).length - (n - 1 - i))) >>= fun d => pure (items.toList.take i ++ [d] ++ (items.toList.drop i).drop ((items.toList.drop i).length - (n - 1 - i)))) _ _ _
  rw [hmid]
  refine wpAny_bind (wpAny_newObj_type (wpAny_pure (h h2 tk fun b o e => hk b o (Nat.ne_of_lt (Heap.lt_size e)) (sb1.extBut b o (Nat.ne_of_lt (Heap.lt_size e)) (Heap.get?_push_of_some _ e)))) ?_)
  show ((items.toList.drop i).take (items.size + 1 - n)).toArray.size ≤ sizeLine
  rw [List.size_toArray, List.length_take, hrl, sizeLine_eq]
  omega
end

/-- a starred name among the targets -/
def gStar (K : PySem.W.Frag) (n i : Nat) (t : TGs) : TG := fun v σ H Q => ∃ a xs, v = .ref a ∧ SqT K H a xs ∧ n ≤ xs.length + 1 ∧ xs.length ≤ 16384 ∧
  ∀ D, H D = none → t (xs.take i ++ [.ref D] ++ (xs.drop i).drop (xs.length + 1 - n)) σ (upd H D (.lst ((xs.drop i).take (xs.length + 1 - n)))) Q
theorem pg_star {X : Cx} {es : List Expr} {k : Nat} {pos : Pos} {t : TGs} {n i : Nat} (hc : X.calm = true) (hi : i < n) (h : ∀ (pins : List (Addr × Obj)) (s : Shared) (σ : L2.St) (H : Hp) (vs : List V) (us : List Value) (Q : L2.St → Hp → Prop), Inv X pins σ H s → Vals vs us → t vs σ H Q →
      wpAny (model X.prog X.w) X.A (assignInOrder ((assignEach es X.env).map (·.2)) us) (fun _ s' => ∃ σ' H', Inv X pins σ' H' s' ∧ Q σ' H') X.xe s)
    (hn : (assignEach es X.env).length = n) (hst : (assignEach es X.env).findIdx? (·.1) = some i) : PG X (.Tuple es k pos) (gStar X.K n i t) := by
  refine ⟨fun pins s σ H v u Q I r hw => ?_⟩
  obtain ⟨a, xs, rfl, hq, h1, h2, q⟩ := hw
  cases r
  obtain ⟨its, rv, ht, hz⟩ := I.tuple hq
  have hlen : its.toArray.size = xs.length := by rw [List.size_toArray]; exact rv.length.symm
  rw [PyProof.Rows.assign_Tuple]
  refine wpAny_bind (wpAny_standAt ?_)
  unfold unpack
  rw [hn, hst]
  refine wpAny_bind (wpAny_holding (star_items ht (I.ok.hd hc) hi (by rw [hlen]; exact h1) (by rw [hlen]; exact h2) fun h1 tk hk => ?_))
  rw [hlen]
  have I1 : Inv X pins σ H { s with heap := h1, toks := tk } := I.kept hk
  have hD := I1.hok.fresh (Nat.le_refl h1.objs.size)
  have I2 := I1.laid (a := h1.objs.size) (o := .lst ((xs.drop i).take (xs.length + 1 - n))) (h' := h1.push { cls := .type "list", data := .seq ((its.toArray.toList.drop i).take (xs.length + 1 - n)).toArray }) (t' := tk) (fun b o e => Heap.get?_push_of_some _ e) (Nat.le_refl _)
    ⟨by rw [List.length_take, List.length_drop, sizeLine_eq]; omega, (its.drop i).take (xs.length + 1 - n), 0, (rv.drop i).take _, Heap.get?_push_size _ rfl⟩
  refine h pins _ σ _ _ _ Q I2 ?_ (q _ hD)
  have one : Vals [V.ref h1.objs.size] [Value.ref h1.objs.size] := .cons (show RelV (V.ref h1.objs.size) (Value.ref h1.objs.size) from rfl) .nil
  have all := ((rv.take i).append one).append ((rv.drop i).drop (xs.length + 1 - n))
  simpa using all
section
variable {w : Wd} {T : Tab} {fuel k : Nat} {N : List Str} {sc : Scope} {W : WX} {X : Cx}
/-- the stores of a list with one star: as without it -/
theorem each_star {env : PySem.Env} {x : Str} {px p : Pos} {post : List Expr} : ∀ {pre : List Expr}, NoStar pre →
    (assignEach (pre ++ .Starred (.Name x px) p :: post) env).map (·.2) = (assignEach (pre ++ .Name x px :: post) env).map (·.2) ∧
      (assignEach (pre ++ .Starred (.Name x px) p :: post) env).length = (pre ++ .Name x px :: post).length ∧ (assignEach (pre ++ .Starred (.Name x px) p :: post) env).findIdx? (·.1) = some pre.length
  | [], _ => by
    refine ⟨rfl, ?_, ?_⟩
    · show (assignEach post env).length + 1 = post.length + 1
      have : ∀ l : List Expr, (assignEach l env).length = l.length := by
        intro l
        induction l with
        | nil => rfl
        | cons e l ih => cases e <;> (show (assignEach l env).length + 1 = _; rw [ih]; rfl)
      rw [this]
    · show ((true, _) :: assignEach post env).findIdx? (·.1) = _
      rw [List.findIdx?_cons]
      rfl
  | e :: pre, h => by
    obtain ⟨h1, h2, h3⟩ := each_star (env := env) (x := x) (px := px) (p := p) (post := post) (pre := pre) fun z hz => h z (List.mem_cons_of_mem _ hz)
    have hs := h e List.mem_cons_self
    have key : ∀ l, assignEach (e :: l) env = (false, assign e env) :: assignEach l env := by
      intro l
      cases e <;> first | rfl | exact absurd rfl (hs _ _)
    refine ⟨?_, ?_, ?_⟩
    · show (assignEach (e :: (pre ++ _)) env).map (·.2) = (assignEach (e :: (pre ++ _)) env).map (·.2)
      rw [key, key, List.map_cons, List.map_cons, h1]
    · show (assignEach (e :: (pre ++ _)) env).length = _
      rw [key, List.length_cons, h2]
      rfl
    · show (assignEach (e :: (pre ++ _)) env).findIdx? (·.1) = _
      rw [key, List.findIdx?_cons, h3]
      rfl
theorem chkTs_len : ∀ {ts : ITs} {es : List Expr}, chkTs T N sc sc ts es = true → es.length = lenTs ts
  | .nil, [], _ => rfl
  | .nil, _ :: _, h => by simp [chkTs] at h
  | .cons _ _, [], h => by simp [chkTs] at h
  | .cons t ts, e :: es, h => by
    simp only [chkTs, Bool.and_eq_true] at h
    simp [lenTs, chkTs_len h.2]
theorem ds_star (G : GoodS w T fuel k N sc W X) {ts : ITs} {i : Nat} {pre post : List Expr} {x : Str} {px p : Pos} {j : Nat} {tp pos : Pos} {e : Expr} {m : Env → M Val} (hpi : pre.length = i) (ht : chkTs T N sc sc ts (pre ++ .Name x px :: post) = true) (hl : isLc e = false) (hw : foldTup e = true) (h : DE w W X e m) :
    DS w W X (.Assign [.Tuple (pre ++ .Starred (.Name x px) p :: post) j tp] e pos) (fun env S => (m env S).then env fun v S => match starV S v (lenTs ts) i with
      | some (xs, ms) => match evTs (S ++ [.lst ms]) ts xs env with
        | some env => .nx env (S ++ [.lst ms])
        | none => .bad
      | none => .bad) := by
  obtain ⟨te, pt, q⟩ := h.ex
  obtain ⟨g, pg, qg⟩ := (dgs_of G.toGood ts _ ht).ex
  have hn : NoStar pre := fun z hz => chkTs_star ht z (List.mem_append_left _ hz)
  obtain ⟨h1, h2, h3⟩ := each_star (env := X.env) (x := x) (px := px) (p := p) (post := post) hn
  have hlen := chkTs_len ht
  have hi : i < lenTs ts := by
    rw [← hlen, ← hpi, List.length_append, List.length_cons]
    omega
  refine ⟨_, ps_asg pt (pg_star (n := lenTs ts) (i := i) (t := g) G.calm hi (fun pins s σ H vs us Q I r hq => by rw [h1]; exact pg.run pins s σ H vs us Q I r hq) (h2.trans hlen) (by rw [h3, hpi])) (by unfold swapsWithSole; exact noLc hl) (noSwap hw), fun ρ σ H env S D re rs pp => ?_⟩
  refine q ρ σ H env S _ re rs ((PostS.bind re pp).imp fun y H1 ⟨v, ρ1, S1, e1, r1, s1, re1, p1⟩ => ?_)
  unfold starV at p1
  cases v <;> dsimp only at p1 <;> first | exact p1.elim | skip
  rename_i l
  simp only [RepV] at r1
  obtain ⟨a, vs, rfl, a1, a2⟩ := r1
  by_cases c : (decide (lenTs ts ≤ l.length + 1) && decide (i < lenTs ts) && decide (l.length ≤ 16384)) = true
  · rw [if_pos c] at p1
    simp only [Bool.and_eq_true, decide_eq_true_eq] at c
    have hL := a2.length
    refine ⟨a, vs, rfl, by rw [G.hK]; exact a1.sq, by rw [hL]; exact c.1.1, by rw [hL]; exact c.2, fun D hD => ?_⟩
    rw [hL]
    dsimp only at p1
    have E := Ext.push (o := .lst ((vs.drop i).take (l.length + 1 - lenTs ts))) s1 hD
    have rm : RepVs w ρ1 H1 ((l.drop i).take (l.length + 1 - lenTs ts)) ((vs.drop i).take (l.length + 1 - lenTs ts)) := (a2.drop i).take _
    have s2 := s1.push (c := .lst ((l.drop i).take (l.length + 1 - lenTs ts))) hD ⟨_, rfl, rm.ext E⟩
    have rD : RepV w (ρ1 ++ [D]) (upd H1 D (.lst ((vs.drop i).take (l.length + 1 - lenTs ts)))) (.ref S1.length) (.ref D) := by
      simp only [RepV]
      exact ⟨D, rfl, by rw [← s1.len]; simp⟩
    have rx : RepVs w (ρ1 ++ [D]) (upd H1 D (.lst ((vs.drop i).take (l.length + 1 - lenTs ts)))) (l.take i ++ [.ref S1.length] ++ (l.drop i).drop (l.length + 1 - lenTs ts)) (vs.take i ++ [.ref D] ++ (vs.drop i).drop (l.length + 1 - lenTs ts)) :=
      (((a2.take i).ext E).append (by simp only [RepVs]; exact ⟨_, [], rfl, rD, rfl⟩)).append (((a2.drop i).drop _).ext E)
    cases z : evTs (S1 ++ [.lst ((l.drop i).take (l.length + 1 - lenTs ts))]) ts (l.take i ++ [.ref S1.length] ++ (l.drop i).drop (l.length + 1 - lenTs ts)) env with
    | none => rw [z] at p1; exact p1.elim
    | some env' =>
      rw [z] at p1
      obtain ⟨σ', k1, k2, k3, k4, k5⟩ := qg _ σ _ env _ _ _ env' (re1.ext E) rx s2 z
      exact k5 _ (PostS.nx (PostS.later E p1) k1 s2)
  · rw [if_neg c] at p1
    exact p1.elim

/-! ### name = {k: v for ..} on one line -/
theorem sw_dict {kx vx : Expr} {gs : List Comprehension} {scope : Scope} {pos py : Pos} {y : Str} {l : Nat} {env : PySem.Env} (hk : env.scope.kind = .function) (hy : env.scope.names.lookup y = some .local) (hl : (py.line == pos.line) = true)
    (ha : (scope.names.any fun z => z.1 == y && (z.2 == .local || z.2 == .cell)) = false) : swapsWith (.DictComp kx vx gs scope pos) (some (.Name y py)) l env = pure true := by
  have ky : env.kindOf y = some .local := hy
  have hb : env.blockKind = .function := by unfold PySem.Env.blockKind; rw [hk]; rfl
  unfold swapsWith
  simp only [hb, ky, ha, Expr.pos, hl]
  rfl
theorem ps_setDc {i : Nat} {y : Str} {py : Pos} {kx vx tg iter : Expr} {ifs : List Expr} {scope : Scope} {own : List (Str × Nat)} {pos spos : Pos} {wi : TI} {g : TG} {tt : TT} {tk tv : TE} (hc : X.calm = true) (hN : X.N.Nodup) (hy : X.N[i]? = some y) (hyl : X.env.scope.names.lookup y = some .local)
    (hsw : swapsWith (.DictComp kx vx [⟨tg, iter, ifs, 0⟩] scope pos) (some (.Name y py)) spos.line X.env = pure true) (hi : PI X tg iter wi) (ok : BlkOk X.N X.env.scope scope own)
    (hg : ∀ (s : Shared) (H : Hp) (C : Addr) (cl : List (Str × Addr)) (fp : List Addr), PG (X.blk s H scope (compEnvC scope cl C X.env) fp) tg g) (ht : ∀ (s : Shared) (H : Hp) (C : Addr) (cl : List (Str × Addr)) (fp : List Addr), PTs (X.blk s H scope (compEnvC scope cl C X.env) fp) ifs tt)
    (hk : ∀ (s : Shared) (H : Hp) (C : Addr) (cl : List (Str × Addr)) (fp : List Addr), PE (X.blk s H scope (compEnvC scope cl C X.env) fp) kx tk) (he : ∀ (s : Shared) (H : Hp) (C : Addr) (cl : List (Str × Addr)) (fp : List Addr), PE (X.blk s H scope (compEnvC scope cl C X.env) fp) vx tv)
    (hs : ∀ x, foldedSetIterable iter X.env x = pure x) :
    PS X (.Assign [.Name y py] (.DictComp kx vx [⟨tg, iter, ifs, 0⟩] scope pos) spos) (tAsg (tDc wi g tt tk tv (own.map (·.2))) (gName i)) := by
  refine ⟨fun pins s σ H D I h => ?_⟩
  rw [exec_Assign_Name_used _ _ _ _ hsw]
  refine wpAny_bind (wpAny_standAt (wpAny_bind ?_))
  show wpAny _ X.A (do let _ ← comprehension (.DictComp kx vx [⟨tg, iter, ifs, 0⟩] scope pos) scope X.env (firstIterPos [⟨tg, iter, ifs, 0⟩] pos) newDict false (eval iter X.env) (some (assign (.Name y py) X.env))) _ _ s
  have h : tDc wi g tt tk tv (own.map (·.2)) σ H (fun x H1 => gName i x σ H1 D.nx) := h
  refine wpAny_bind (thn (dc_core (Qf := fun _ s' => SP X pins D .next s') hc hN I hi ok hg ht hk he hs h fun L C s' m H' I' q hn f => ?_) fun _ s' hq => wpAny_pure (wpAny_pure hq))
  show wpAny _ _ (assign (.Name y py) X.env (.ref L)) _ _ _
  refine wpAny_assign_Name (store_ok2 (v := V.ref L) I' hN hy (.inl hyl) rfl (fun s2 I2 hz => ?_) (.inr hyl))
  obtain ⟨a, sb, ha⟩ := hz
  obtain ⟨f0, f1, f2, f3, f4, f5⟩ := f
  have haC : C ≠ a := by
    rcases ha with z | z
    · rw [z]; exact f1
    · exact fun e => f4 y a z e.symm
  exact ⟨m, hn.sameBut sb haC, fun h3 sb3 => ⟨_, H', I2.turned (t' := s2.toks) (fun b o hb e => (sb3.2 b hb).trans e) f0 f1 f3 f4 f5, q⟩⟩
theorem ds_setDc (G : GoodS w T fuel k N sc W X) {i : Nat} {x : Str} {kx elt tg iter : Expr} {ifs : List Expr} {scope : Scope} {own : List (Str × Nat)} {px pos cpos : Pos} {t : IT} {mi : Env → M Src} {mk : Env → M Bool} {mx me : Env → M Val}
    (hx : N[i]? = some x) (hsw : lcSwap sc x px (.DictComp kx elt [⟨tg, iter, ifs, 0⟩] scope cpos) = true)
    (ok : BlkOk N sc scope own) (hi : DI w W X tg iter mi) (ht : chkT T N scope (relS scope sc) t tg = true) (ho : ∀ i ∈ slotsT t, i ∈ own.map (·.2))
    (hk : ∀ X', Good w T fuel k N scope (relS scope sc) WF X' → (ifs = [] ∧ mk = fun _ => pure true) ∨ ∃ c, ifs = [c] ∧ DT w WF X' c mk) (hkx : ∀ X', Good w T fuel k N scope (relS scope sc) WF X' → DE w WF X' kx mx) (he : ∀ X', Good w T fuel k N scope (relS scope sc) WF X' → DE w WF X' elt me)
    (hs : ∀ x, foldedSetIterable iter X.env x = pure x) :
    DS w W X (.Assign [.Name x px] (.DictComp kx elt [⟨tg, iter, ifs, 0⟩] scope cpos) pos) (fun env S => (dcompM mi (own.map (·.2)) t mk mx me env S).then env fun v S => .nx (envSet env i v) S) := by
  obtain ⟨ti, pi, qi⟩ := hi.ex
  have B := fun s H C cl fp => good_blk G.toGood s H scope cl C fp
  simp only [lcSwap, Bool.and_eq_true, Bool.not_eq_true'] at hsw
  have hy := pl_of hsw.1.1
  refine ⟨_, ps_setDc (i := i) (own := own) (g := gOf w t) (tt := ttOf w WF mk) (tk := tOf w WF mx) (tv := tOf w WF me) G.calm G.nd (by rw [G.hN]; exact hx) (by rw [G.hsc]; exact hy) (sw_dict (by rw [G.hsc]; exact G.kind) (by rw [G.hsc]; exact hy) hsw.1.2 hsw.2) pi (by rw [G.hN, G.hsc]; exact ok)
    (fun s H C cl fp => pg_of (B s H C cl fp) ht) (fun s H C cl fp => pts_of (hk _ (B s H C cl fp))) (fun s H C cl fp => (hkx _ (B s H C cl fp)).pe) (fun s H C cl fp => (he _ (B s H C cl fp)).pe) hs, fun ρ σ H env S D re rs p => ?_⟩
  refine dc_ok ho qi re rs ((PostS.bind re p).imp fun y H1 ⟨v, ρ1, S1, e1, r1, s1, re1, p1⟩ => ?_)
  exact p1.nx (re1.set r1 i) s1

/-! ### x, y, z = u, v, q -/
theorem swap3 {x y z : Str} {px py pz pt p2 : Pos} {j k2 : Nat} {u v q : Expr} {env : PySem.Env} (hk : env.scope.kind = .function) (hx : env.scope.names.lookup x = some .local) (hy : env.scope.names.lookup y = some .local) (hz : env.scope.names.lookup z = some .local) (hxy : x ≠ y) (hxz : x ≠ z) (hyz : y ≠ z)
    (hl : (px.line == py.line) = true) (hl2 : (px.line == pz.line) = true) (h1 : [u, v, q].all (foldedForSure 8) = false) (h2 : [u, v, q].all (constantsAlone 8) = false) (su : ∀ x p, u ≠ .Starred x p) (sv : ∀ x p, v ≠ .Starred x p) (sq : ∀ x p, q ≠ .Starred x p) :
    swappedStores [.Tuple [.Name x px, .Name y py, .Name z pz] j pt] (.Tuple [u, v, q] k2 p2) env = pure (some [x, y, z]) := by
  have hb : env.blockKind = .function := by unfold PySem.Env.blockKind; rw [hk]; rfl
  have kx : (env.kindOf x == some .local) = true := by unfold PySem.Env.kindOf; rw [hx]; rfl
  have ky : (env.kindOf y == some .local) = true := by unfold PySem.Env.kindOf; rw [hy]; rfl
  have kz : (env.kindOf z == some .local) = true := by unfold PySem.Env.kindOf; rw [hz]; rfl
  have hl' : py.line = px.line := (eq_of_beq hl).symm
  have hl2' : pz.line = px.line := (eq_of_beq hl2).symm
  have hn : [x, y, z].eraseDups.length = 3 := by
    have a : (y == x) = false := by simpa using fun e => hxy e.symm
    have b : (z == x) = false := by simpa using fun e => hxz e.symm
    have c : (z == y) = false := by simpa using fun e => hyz e.symm
    simp [List.eraseDups_cons, a, b, c]
  unfold swappedStores
  simp only [hb, h1, h2]
  simp [kx, ky, kz, Expr.pos, hl', hl2', hn, List.filterMap]
theorem ds_par3 (G : GoodS w T fuel k N sc W X) {i j l : Nat} {x y z : Str} {u v q : Expr} {mu mv mq : Env → M Val} {px py pz pt p2 pos : Pos} {kt k2 : Nat} (hi : N[i]? = some x) (hj : N[j]? = some y) (hl : N[l]? = some z) (hij : i ≠ j) (hil : i ≠ l) (hjl : j ≠ l) (hxy : x ≠ y) (hxz : x ≠ z) (hyz : y ≠ z)
    (hx : plB sc x = true) (hy : plB sc y = true) (hz : plB sc z = true) (hl1 : (px.line == py.line) = true) (hl2 : (px.line == pz.line) = true) (h1 : [u, v, q].all (foldedForSure 8) = false) (h2 : [u, v, q].all (constantsAlone 8) = false)
    (su : ∀ x p, u ≠ .Starred x p) (sv : ∀ x p, v ≠ .Starred x p) (sq : ∀ x p, q ≠ .Starred x p) (hu : DE w W X u mu) (hv : DE w W X v mv) (hq : DE w W X q mq) :
    DS w W X (.Assign [.Tuple [.Name x px, .Name y py, .Name z pz] kt pt] (.Tuple [u, v, q] k2 p2) pos) (fun env S => (mu env S).then env fun a S => (mv env S).then env fun b S => (mq env S).then env fun c S => .nx (envSet (envSet (envSet env i a) j b) l c) S) := by
  obtain ⟨tu, pu, qu⟩ := hu.ex
  obtain ⟨tv, pv, qv⟩ := hv.ex
  obtain ⟨tq, pq, qq⟩ := hq.ex
  have lx := pl_of hx
  have ly := pl_of hy
  have lz := pl_of hz
  refine ⟨_, ps_par3 (i := i) (j := j) (l := l) G.calm G.nd (by rw [G.hN]; exact hi) (by rw [G.hN]; exact hj) (by rw [G.hN]; exact hl) hij hil hjl (by rw [G.hsc]; exact lx) (by rw [G.hsc]; exact ly) (by rw [G.hsc]; exact lz) (pa_cons pu (pa_cons pv (pa_cons pq pa_nil (star_cons sq)) (star_cons sv)) (star_cons su))
    (swap3 (by rw [G.hsc]; exact G.kind) (by rw [G.hsc]; exact lx) (by rw [G.hsc]; exact ly) (by rw [G.hsc]; exact lz) hxy hxz hyz hl1 hl2 h1 h2 su sv sq), fun ρ σ H env S D re rs p => ?_⟩
  refine qu ρ σ H env S _ re rs ((PostS.bind re p).imp fun a H1 ⟨va, ρ1, S1, e1, r1, s1, re1, p1⟩ => ?_)
  refine qv ρ1 σ H1 env S1 _ re1 s1 ((PostS.bind re1 p1).imp fun b H2 ⟨vb, ρ2, S2, e2, r2, s2, re2, p2⟩ => ?_)
  refine qq ρ2 σ H2 env S2 _ re2 s2 ((PostS.bind re2 p2).imp fun c H3 ⟨vc, ρ3, S3, e3, r3, s3, re3, p3⟩ => ?_)
  exact ⟨a, b, c, rfl, p3.nx (((re3.set (r1.ext (e2.trans e3)) i).set (r2.ext e3) j).set r3 l) s3⟩
end
end Pd

/-! Pd, part 17: loops; each statement that is checked is kept. -/
namespace Pd
open PySem PySem.Spec L2

theorem forLoop_eq (src : Src) (put : Store → Val → Env → Option Env) (body : Env → Store → RS) (m i : Nat) (env : Env) (S : Store) : forLoop src put body m i env S = match src.at S i with
    | none => .bad
    | some none => .nx env S
    | some (some x) => match m with
      | 0 => .bad
      | n + 1 => match put S x env with
        | none => .bad
        | some env1 => match body env1 S with
          | .nx env2 S2 => forLoop src put body n (i + 1) env2 S2
          | .ct env2 S2 => forLoop src put body n (i + 1) env2 S2
          | .bk env2 S2 => .nx env2 S2
          | r => r := by
  cases m <;> (conv => lhs; unfold forLoop) <;> cases src.at S i with | none => rfl | some o => cases o <;> rfl
theorem whlLoop_eq (test : Env → M Bool) (body : Env → Store → RS) (m : Nat) (env : Env) (S : Store) : whlLoop test body m env S = (test env S).then env fun t S1 => if t then match m with
      | 0 => .bad
      | n + 1 => match body env S1 with
        | .nx env2 S2 => whlLoop test body n env2 S2
        | .ct env2 S2 => whlLoop test body n env2 S2
        | .bk env2 S2 => .nx env2 S2
        | r => r
    else .nx env S1 := by
  cases m <;> (conv => lhs; unfold whlLoop) <;> rfl

section
variable {w : Wd} {T : Tab} {fuel k : Nat} {N : List Str} {sc : Scope} {W : WX} {X : Cx}
/-- a turn's end: on, out, or away -/
theorem PostS.turn {D : Ends} {Nx : L2.St → Hp → Prop} {ρ : List Addr} {H : Hp} {r : RS} {next : Env → Store → RS} (h : PostS w W D ρ H (match r with
      | .nx env2 S2 => next env2 S2
      | .ct env2 S2 => next env2 S2
      | .bk env2 S2 => .nx env2 S2
      | r => r))
    (hn : ∀ env2 S2, PostS w W D ρ H (next env2 S2) → ∀ σ' ρ' H', Ext ρ H ρ' H' → RepE w ρ' H' env2 σ' → RepS w ρ' H' S2 → Nx σ' H') : PostS w W { D with nx := Nx, ct := Nx, bk := D.nx } ρ H r := by
  cases r with
  | nx env S => exact hn env S h
  | ct env S => exact hn env S h
  | bk env S => exact h
  | rt v S => exact h
  | exc x env S => exact h
  | bad => exact h
theorem ds_for (G : GoodS w T fuel k N sc W X) {t : IT} {tg ie : Expr} {body : List Stmt} {mi : Env → M Src} {mb : Env → Store → RS} {pos : Pos} (ht : chkT T N sc sc t tg = true) (hi : DI w W X tg ie mi) (hb : DSs w W X body mb) (hs : ∀ x, foldedSetIterable ie X.env x = pure x) :
    DS w W X (.For tg ie body [] pos) (fun env S => (mi env S).then env fun src S => forLoop src (fun S x e => evT S t x e) mb (src.len S) 0 env S) := by
  obtain ⟨ti, pi, qi⟩ := hi.ex
  obtain ⟨tb, pb, qb⟩ := hb.ex
  refine ⟨_, ps_for G.ps G.calm pi (pg_of G.toGood ht) pb hs, fun ρ σ H env S D re rs p => ?_⟩
  refine qi ρ σ H env S _ re rs ((PostS.bind re p).imp fun J H1 ⟨src, ρ1, S1, e1, r1, s1, re1, p1⟩ => ?_)
  refine ⟨fun i m σ' H' => ∃ ρk Sk env', Ext ρ1 H1 ρk H' ∧ RepS w ρk H' Sk ∧ RepE w ρk H' env' σ' ∧ PostS w W D ρk H' (forLoop src (fun S x e => evT S t x e) mb m i env' Sk), ⟨src.len S1, ρ1, S1, env, Ext.refl _ _, s1, re1, p1⟩, ?_⟩
  rintro i m σ2 H2 ⟨ρk, Sk, env2, ek, sk, rek, pk⟩
  rw [forLoop_eq] at pk
  obtain ⟨go1, go2⟩ := r1 ρk H2 Sk ek sk i
  cases qa : src.at Sk i with
  | none => rw [qa] at pk; exact pk.elim
  | some o =>
    rw [qa] at pk
    cases o with
    | none => exact .inl ⟨go1 qa, pk.nx rek sk⟩
    | some x =>
      obtain ⟨go, gy⟩ := go2 x qa
      dsimp only at pk
      cases m with
      | zero => exact pk.elim
      | succ n =>
        dsimp only at pk
        cases qp : evT Sk t x env2 with
        | none => rw [qp] at pk; exact pk.elim
        | some env3 =>
          rw [qp] at pk
          refine .inr ⟨go, _, fun σ' H' nx => ⟨n, Nat.lt_succ_self n, nx⟩, fun v H3 yl => ?_⟩
          obtain ⟨ey, rv, sy⟩ := gy v H3 yl
          refine ⟨ρk, Sk, env2, env3, x, rek.ext ey, rv, sy, qp, fun σ' re' _ _ => qb ρk σ' H3 env3 Sk _ re' sy ?_⟩
          exact PostS.turn (PostS.later ey pk) fun env4 S4 p4 σ4 ρ4 H4 e4 re4 s4 => ⟨ρ4, S4, env4, (ek.trans ey).trans e4, s4, re4, p4.later e4⟩
theorem ds_whl (G : GoodS w T fuel k N sc W X) {c : Expr} {body : List Stmt} {mc : Env → M Bool} {mb : Env → Store → RS} {pos : Pos} {fu : Nat} (hc : DT w W X c mc) (hb : DSs w W X body mb) :
    DS w W X (.While c body [] pos) (fun env S => whlLoop mc mb fu env S) := by
  obtain ⟨tc, pc, qc⟩ := hc.ex
  obtain ⟨tb, pb, qb⟩ := hb.ex
  refine ⟨_, ps_while G.ps pc pb, fun ρ σ H env S D re rs p => ?_⟩
  refine ⟨fun m σ' H' => ∃ ρk Sk env', RepS w ρk H' Sk ∧ RepE w ρk H' env' σ' ∧ PostS w W D ρk H' (whlLoop mc mb m env' Sk), ⟨fu, ρ, S, env, rs, re, p⟩, ?_⟩
  rintro m σ2 H2 ⟨ρk, Sk, env2, sk, rek, pk⟩
  rw [whlLoop_eq] at pk
  refine qc ρk σ2 H2 env2 Sk _ rek sk ((PostS.bind (rel := fun _ _ a b => a = b) rek pk).imp fun b H3 ⟨v, ρ3, S3, e3, r3, s3, re3, p3⟩ => ?_)
  subst r3
  cases v with
  | false => exact PostS.nx p3 re3 s3
  | true =>
    rw [if_pos rfl] at p3 ⊢
    cases m with
    | zero => exact p3.elim
    | succ n =>
      refine ⟨_, fun σ' H' nx => ⟨n, Nat.lt_succ_self n, nx⟩, qb ρ3 σ2 H3 env2 S3 _ re3 s3 ?_⟩
      exact PostS.turn p3 fun env4 S4 p4 σ4 ρ4 H4 e4 re4 s4 => ⟨ρ4, S4, env4, s4, re4, p4.later e4⟩

mutual
theorem ds_of (G : GoodS w T fuel k N sc W X) : ∀ (i : IS) (st : Stmt), chkS T N sc i st = true → DS w W X st (evS (T.C fuel k) fuel i)
  | .set i e, st, h => by
    cases st <;> first | (simp [chkS] at h; done) | skip
    rename_i ts v p
    rcases ts with _ | ⟨x, ts⟩
    · simp [chkS] at h
    cases x <;> first | (simp [chkS] at h; done) | skip
    cases ts <;> first | (simp [chkS] at h; done) | skip
    rename_i x px
    simp only [chkS, Bool.and_eq_true, decide_eq_true_eq] at h
    simp only [evS]
    obtain ⟨⟨h1, h2⟩, h3⟩ := h
    by_cases hl : lcSwap sc x px v = true
    · rw [if_pos hl] at h3
      have h3 := hl
      cases e <;> cases v <;> first | (simp [chkE] at h2; done) | (simp [lcSwap] at hl; done) | skip
      · rename_i key el own t it c kxE eltE gs scope cp
        rcases gs with _ | ⟨⟨tg, ie, ifs, as⟩, _ | ⟨_, _⟩⟩ <;> first | (simp [chkE] at h2; done) | skip
        simp only [chkE, Bool.and_eq_true, List.all_eq_true, decide_eq_true_eq] at h2
        obtain ⟨⟨⟨⟨⟨⟨⟨⟨h0, a1⟩, atg⟩, a2⟩, a3⟩, a4⟩, a5⟩, a7⟩, a6⟩ := h2
        subst h0
        simp only [evE]
        refine ds_setDc G h1 h3 (blkOk_by a2) (di_of it _ tg G.toGood atg a1) a4 (fun i hi => by simpa using a3 i hi) (fun X' G' => ?_) (fun X' G' => (db_of key _ G' a7).de) (fun X' G' => (db_of el _ G' a6).de) (setIt_ok a1)
        cases c with
        | none =>
          cases ifs with
          | nil => exact .inl ⟨rfl, by simp only [evK]⟩
          | cons _ _ => simp [chkTO] at a5
        | some c =>
          rcases ifs with _ | ⟨f, _ | ⟨_, _⟩⟩ <;> first | (simp [chkTO] at a5; done) | skip
          simp only [chkTO] at a5
          simp only [evK]
          exact .inr ⟨f, rfl, (db_of c _ G' a5).dt⟩

      · rename_i el own t it c eltE gs scope cp
        rcases gs with _ | ⟨⟨tg, ie, ifs, as⟩, _ | ⟨_, _⟩⟩ <;> first | (simp [chkE] at h2; done) | skip
        simp only [chkE, Bool.and_eq_true, List.all_eq_true, decide_eq_true_eq] at h2
        obtain ⟨⟨⟨⟨⟨⟨⟨h0, a1⟩, atg⟩, a2⟩, a3⟩, a4⟩, a5⟩, a6⟩ := h2
        subst h0
        simp only [evE]
        refine ds_setLc G h1 h3 (blkOk_by a2) (di_of it _ tg G.toGood atg a1) a4 (fun i hi => by simpa using a3 i hi) (fun X' G' => ?_) (fun X' G' => (db_of el _ G' a6).de) (setIt_ok a1)
        cases c with
        | none =>
          cases ifs with
          | nil => exact .inl ⟨rfl, by simp only [evK]⟩
          | cons _ _ => simp [chkTO] at a5
        | some c =>
          rcases ifs with _ | ⟨f, _ | ⟨_, _⟩⟩ <;> first | (simp [chkTO] at a5; done) | skip
          simp only [chkTO] at a5
          simp only [evK]
          exact .inr ⟨f, rfl, (db_of c _ G' a5).dt⟩
    · rw [if_neg hl] at h3
      exact ds_set G h1 h3 (fun l => lcStay h2 G.hsc (by simpa using hl)) (db_of e _ G.toGood h2).de
  | .asg t e, st, h => by
    cases st <;> first | (simp [chkS] at h; done) | skip
    rename_i ts v p
    rcases ts with _ | ⟨x, ts⟩
    · simp [chkS] at h
    cases x <;> first | (simp [chkS] at h; done) | skip
    cases ts <;> first | (simp [chkS] at h; done) | skip
    simp only [chkS, Bool.and_eq_true, Bool.not_eq_true'] at h
    simp only [evS]
    exact ds_asg G h.1.1.1 h.1.2 h.2 (db_of e _ G.toGood h.1.1.2).de
  | .par i j a b, st, h => by
    cases st <;> first | (simp [chkS] at h; done) | skip
    rename_i ts wv p
    simp only [chkS] at h
    split at h
    · rename_i x px y py u v hp
      obtain ⟨k1, p1, k2, p2, rfl, rfl⟩ := parOf_inv hp
      simp only [Bool.and_eq_true, Bool.not_eq_true', decide_eq_true_eq] at h
      simp only [evS]
      obtain ⟨⟨⟨⟨⟨⟨⟨⟨⟨⟨h1, h2⟩, h3⟩, h4⟩, h5⟩, h6⟩, h7⟩, h8⟩, h9⟩, h10⟩, h11⟩ := h
      exact ds_par G h1 h2 h3 h4 h5 h6 h9 h10 h11 (fun x q z => by subst z; exact chkE_star h7) (fun x q z => by subst z; exact chkE_star h8) (db_of a _ G.toGood h7).de (db_of b _ G.toGood h8).de
    · cases h
  | .par3 i j l a b c, st, h => by
    cases st <;> first | (simp [chkS] at h; done) | skip
    rename_i ts wv p
    simp only [chkS] at h
    split at h
    · rename_i x px y py z pz u v q hp
      obtain ⟨x', px', y', py', z', pz', u', v', q', k1, p1, k2, p2, e1, e2, rfl, rfl⟩ := parOf3_inv hp
      simp only [List.cons.injEq, Prod.mk.injEq, and_true] at e1 e2
      obtain ⟨⟨rfl, rfl⟩, ⟨rfl, rfl⟩, rfl, rfl⟩ := e1
      obtain ⟨rfl, rfl, rfl⟩ := e2
      simp only [Bool.and_eq_true, Bool.not_eq_true', decide_eq_true_eq] at h
      simp only [evS]
      obtain ⟨⟨⟨⟨⟨⟨⟨⟨⟨⟨⟨⟨⟨⟨⟨⟨⟨⟨h1, h2⟩, h3⟩, h4⟩, h5⟩, h6⟩, h7⟩, h8⟩, h9⟩, h10⟩, h11⟩, h12⟩, h13⟩, h14⟩, h15⟩, h16⟩, h17⟩, h18⟩, h19⟩ := h
      exact ds_par3 G h1 h2 h3 h4 h5 h6 h7 h8 h9 h10 h11 h12 h16 h17 h18 h19 (fun x q z => by subst z; exact chkE_star h13) (fun x q z => by subst z; exact chkE_star h14) (fun x q z => by subst z; exact chkE_star h15) (db_of a _ G.toGood h13).de (db_of b _ G.toGood h14).de (db_of c _ G.toGood h15).de
    · cases h
  | .star ts i e, st, h => by
    cases st <;> first | (simp [chkS] at h; done) | skip
    rename_i tgs v p
    rcases tgs with _ | ⟨x, tgs⟩
    · simp [chkS] at h
    cases x <;> first | (simp [chkS] at h; done) | skip
    cases tgs <;> first | (simp [chkS] at h; done) | skip
    simp only [chkS] at h
    split at h
    · rename_i a x px ps b hp
      have e1 := starOf_inv hp
      simp only [Bool.and_eq_true, Bool.not_eq_true', decide_eq_true_eq] at h
      simp only [evS]
      rw [e1]
      exact ds_star G h.1.1.1.1 h.1.1.1.2 h.1.2 h.2 (db_of e _ G.toGood h.1.1.2).de
    · cases h
  | .aug i op e, st, h => by
    cases st <;> first | (simp [chkS] at h; done) | skip
    rename_i x o v p
    cases x <;> first | (simp [chkS] at h; done) | skip
    simp only [chkS, Bool.and_eq_true, decide_eq_true_eq] at h
    simp only [evS]
    exact ds_aug G h.1.2 h.1.1.1 h.1.1.2 (db_of e _ G.toGood h.2).de
  | .idx o k' e, st, h => by
    cases st <;> first | (simp [chkS] at h; done) | skip
    rename_i ts v p
    rcases ts with _ | ⟨x, ts⟩
    · simp [chkS] at h
    cases x <;> first | (simp [chkS] at h; done) | skip
    cases ts <;> first | (simp [chkS] at h; done) | skip
    simp only [chkS, Bool.and_eq_true, Bool.not_eq_true'] at h
    simp only [evS]
    exact ds_idx G (fun l u st p z => by subst z; exact chkE_slice h.1.1.2) h.2 (db_of o _ G.toGood h.1.1.1).de (db_of k' _ G.toGood h.1.1.2).de (db_of e _ G.toGood h.1.2).de
  | .fld _ _ _, st, h => by simp [chkS] at h
  | .ex e, st, h => by
    cases st <;> first | (simp [chkS] at h; done) | skip
    simp only [chkS, Bool.and_eq_true, Bool.not_eq_true'] at h
    simp only [evS]
    exact ds_ex G h.2 (db_of e _ G.toGood h.1).de
  | .ret e, st, h => by
    cases st <;> first | (simp [chkS] at h; done) | skip
    rename_i v p
    cases v <;> first | (simp [chkS] at h; done) | skip
    simp only [chkS] at h
    simp only [evS]
    exact ds_ret (db_of e _ G.toGood h).de
  | .retN, st, h => by
    cases st <;> first | (simp [chkS] at h; done) | skip
    rename_i v p
    cases v <;> first | (simp [chkS] at h; done) | skip
    simp only [evS]
    exact ds_retN
  | .ife c a b, st, h => by
    cases st <;> first | (simp [chkS] at h; done) | skip
    simp only [chkS, Bool.and_eq_true] at h
    simp only [evS]
    exact ds_ife (db_of c _ G.toGood h.1.1).dt (dss_of G a _ h.1.2) (dss_of G b _ h.2)
  | .for_ t it b, st, h => by
    cases st <;> first | (simp [chkS] at h; done) | skip
    rename_i tg ie x el p
    cases el <;> first | (simp [chkS] at h; done) | skip
    simp only [chkS, Bool.and_eq_true] at h
    simp only [evS]
    exact ds_for G h.1.1.1 (di_of it _ tg G.toGood h.1.2 h.1.1.2) (dss_of G b _ h.2) (setIt_ok h.1.1.2)
  | .whl c b, st, h => by
    cases st <;> first | (simp [chkS] at h; done) | skip
    rename_i t x el p
    cases el <;> first | (simp [chkS] at h; done) | skip
    simp only [chkS, Bool.and_eq_true] at h
    simp only [evS]
    exact ds_whl G (db_of c _ G.toGood h.1).dt (dss_of G b _ h.2)
  | .pass, st, h => by
    cases st <;> first | (simp [chkS] at h; done) | skip
    simp only [evS]
    exact ds_pass
  | .brk, st, h => by
    cases st <;> first | (simp [chkS] at h; done) | skip
    simp only [evS]
    exact ds_brk
  | .cont, st, h => by
    cases st <;> first | (simp [chkS] at h; done) | skip
    simp only [evS]
    exact ds_cont
theorem dss_of (G : GoodS w T fuel k N sc W X) : ∀ (is : ISs) (sts : List Stmt), chkSs T N sc is sts = true → DSs w W X sts (evSs (T.C fuel k) fuel is)
  | .nil, sts, h => by
    cases sts with
    | cons _ _ => simp [chkSs] at h
    | nil => simp only [evSs]; exact dss_nil
  | .cons i is, sts, h => by
    cases sts with
    | nil => simp [chkSs] at h
    | cons st sts =>
      simp only [chkSs, Bool.and_eq_true] at h
      simp only [evSs]
      exact dss_cons (ds_of G i _ h.1) (dss_of G is _ h.2)
end
end
end Pd

/-! Pd, part 18: defs; the law's def called. -/
namespace Pd
open PySem PySem.Spec L2

/-! ### what was made within goes -/
section
variable {w : Wd} {ρ more : List Addr} {H : Hp}
theorem out_left {a : Addr} (h : a ∉ ρ ++ more) : a ∉ ρ := fun z => h (List.mem_append_left _ z)
theorem StT.cut {a : Addr} {vs : List V} (h : StT w (ρ ++ more) H a vs) : StT w ρ H a vs := by
  rcases h with ⟨n, h⟩ | h
  · exact .inl ⟨out_left n, h⟩
  · exact .inr h
theorem StL.cut {a : Addr} {vs : List V} (h : StL w (ρ ++ more) H a vs) : StL w ρ H a vs := by
  rcases h with ⟨n, h⟩ | h
  · exact .inl ⟨out_left n, h⟩
  · exact .inr h
mutual
theorem RepV.cut : ∀ (x : Val) (v : V), refsLt ρ.length x = true → RepV w (ρ ++ more) H x v → RepV w ρ H x v
  | .non, _, _, h => by simpa only [RepV] using h
  | .bl _, _, _, h => by simpa only [RepV] using h
  | .int _, _, _, h => by simpa only [RepV] using h
  | .str _, _, _, h => by simpa only [RepV] using h
  | .tup xs, v, c, h => by
    simp only [RepV] at h ⊢
    simp only [refsLt] at c
    obtain ⟨a, vs, h1, h2, h3⟩ := h
    exact ⟨a, vs, h1, h2.cut, RepVs.cut xs vs c h3⟩
  | .ins k fs, v, c, h => by
    simp only [RepV] at h ⊢
    simp only [refsLt] at c
    obtain ⟨p, C, dx, ns, vs, h1, h2, h3, h4, h5, h6⟩ := h
    exact ⟨p, C, dx, ns, vs, h1, h2, out_left h3, h4, h5, RepVs.cut fs vs c h6⟩
  | .scr ns, v, _, h => by
    simp only [RepV] at h ⊢
    obtain ⟨a, h1, h2⟩ := h
    exact ⟨a, h1, h2.cut⟩
  | .ref i, v, c, h => by
    simp only [RepV] at h ⊢
    simp only [refsLt, decide_eq_true_eq] at c
    obtain ⟨a, h1, h2⟩ := h
    exact ⟨a, h1, by rw [List.getElem?_append_left c] at h2; exact h2⟩
theorem RepVs.cut : ∀ (xs : List Val) (vs : List V), refsLtL ρ.length xs = true → RepVs w (ρ ++ more) H xs vs → RepVs w ρ H xs vs
  | [], _, _, h => by simpa only [RepVs] using h
  | x :: xs, vs, c, h => by
    simp only [RepVs] at h ⊢
    simp only [refsLtL, Bool.and_eq_true] at c
    obtain ⟨v, r, h1, h2, h3⟩ := h
    exact ⟨v, r, h1, RepV.cut x v c.1 h2, RepVs.cut xs r c.2 h3⟩
end
theorem RepKV.cut {κ : Type} : ∀ (xs : List (κ × Val)) (vs : List (κ × V)), refsLtL ρ.length (xs.map (·.2)) = true → RepKV w (ρ ++ more) H xs vs → RepKV w ρ H xs vs
  | [], _, _, h => by simpa only [RepKV] using h
  | (k, x) :: xs, vs, c, h => by
    simp only [RepKV] at h ⊢
    simp only [List.map_cons, refsLtL, Bool.and_eq_true] at c
    obtain ⟨v, r, h1, h2, h3⟩ := h
    exact ⟨v, r, h1, RepV.cut x v c.1 h2, RepKV.cut xs r c.2 h3⟩
theorem RepC.cut : ∀ (c : Cell) (o : HO), cellLt ρ.length c = true → RepC w (ρ ++ more) H c o → RepC w ρ H c o
  | .lst xs, o, c, ⟨vs, h1, h2⟩ => ⟨vs, h1, RepVs.cut xs vs c h2⟩
  | .dct xs, o, c, ⟨vs, h1, h2⟩ => ⟨vs, h1, RepKV.cut xs vs c h2⟩
  | .dtt xs, o, c, ⟨vs, h1, h2⟩ => ⟨vs, h1, RepKV.cut xs vs c h2⟩
  | .obj k fs, o, c, ⟨C, dx, ns, vs, h1, h2, h3⟩ => ⟨C, dx, ns, vs, h1, h2, RepKV.cut fs vs c h3⟩
theorem RepS.cut {S : Store} (h : RepS w (ρ ++ more) H S) (c : (S.take ρ.length).all (cellLt ρ.length) = true) : RepS w ρ H (S.take ρ.length) := by
  have hl := h.len
  rw [List.length_append] at hl
  refine ⟨by rw [List.length_take]; omega, (List.nodup_append.mp h.nd).1, fun i a k h1 h2 => ?_⟩
  have hi : i < ρ.length := (List.getElem?_eq_some_iff.mp h1).1
  have m := List.mem_of_getElem? h2
  rw [List.getElem?_take_of_lt hi] at h2
  obtain ⟨o, e, q⟩ := h.cell i a k (by rw [List.getElem?_append_left hi]; exact h1) h2
  exact ⟨o, e, RepC.cut k o (List.all_eq_true.mp c k m) q⟩
theorem swept_ok {ρ' : List Addr} {H' : Hp} {S : Store} {v : Val} {x : V} (e : Ext ρ H ρ' H') (rv : RepV w ρ' H' v x) (rs : RepS w ρ' H' S) :
    ∃ ρ2, Ext ρ H ρ2 H' ∧ RepV w ρ2 H' v x ∧ RepS w ρ2 H' (swept ρ.length v S) := by
  unfold swept
  split
  · rename_i c
    simp only [Bool.and_eq_true] at c
    obtain ⟨m, rfl, hm⟩ := e.pre
    exact ⟨ρ, ⟨⟨[], by simp, fun _ z => nomatch z⟩, e.oth, e.mono⟩, RepV.cut v x c.1 rv, rs.cut c.2⟩
  · exact ⟨ρ', e, rv, rs⟩
end

/-! ### defs -/
/-- what the written part says of a def, and that d stands for it -/
structure DefAt (P : Program) (wo : World) (w : Wd) (mg : Str → Option Value) (T : Tab) (d : FnD) : Prop where
  ex : ∃ (a : Addr) (name qual : Str) (params : Arguments) (body : List Stmt) (scope : Scope) (dV kV doc pm cdv ct oc : Value) (an od : Option Addr) (osl : Array (Option Value)),
    w.K.lookup a = some ⟨oc, od, .func (PySem.W.fnOf name qual params body scope dV kV doc pm an cdv ct), osl⟩ ∧ PySem.W.codeIn w.K cdv qual = true ∧ FnScope d.N (d.N.take d.np) scope ∧ mg d.name = some (.ref a) ∧ PySem.W.keepIn w.K (.ref a) = true ∧
      Binds w.K (PySem.W.fnOf name qual params body scope dV kV doc pm an cdv ct) (d.N.take d.np) [] ∧ chkSs T d.N scope d.body body = true ∧ d.np ≤ d.N.length
/-- the whole text's facts -/
structure TextOk (P : Program) (wo : World) (w : Wd) (mg : Str → Option Value) (T : Tab) : Prop where
  defs : ∀ (f : Nat) (d : FnD), T.fns[f]? = some d → DefAt P wo w mg T d
  globs : ∀ (g : Nat) x v, T.globs[g]? = some (x, v) → ∃ u xv, mg x = some u ∧ RelV xv u ∧ ∀ ρ H, RepV w ρ H v xv
  blts : ∀ x ∈ T.blts, mg x = none
  cls : ∀ c C ns, w.cls c = some (C, ns) → ClsAt w.K C
  isi : ∀ (t : Option Ty) (c : Ty) (u v : Value), c ∈ T.tys → tyVal w t = some u → tyVal w (some c) = some v → PySem.W.kitOne w.K u v = some (tyMatch t c)

section
variable {P : Program} {wo : World} {w : Wd} {mg : Str → Option Value} {base : Heap} {T : Tab} {fuel k : Nat}
theorem repE_start {ρ : List Addr} {H : Hp} : ∀ {vs : List Val} {xs : List V} (n : Nat), RepVs w ρ H vs xs → RepE w ρ H (vs.map some ++ List.replicate n none) (xs.map some ++ List.replicate n none)
  | [], _, n, h => by
    simp only [RepVs] at h
    subst h
    induction n with
    | zero => simp [RepE]
    | succ n ih =>
      simp only [List.map_nil, List.nil_append, List.replicate_succ] at ih ⊢
      exact ⟨none, _, rfl, ih⟩
  | v :: vs, _, n, h => by
    simp only [RepVs] at h
    obtain ⟨x, r, rfl, h1, h2⟩ := h
    exact ⟨x, _, rfl, h1, repE_start n h2⟩
theorem stB_own {sc : Scope} {x : Str} (h : stB sc sc x = true) : L2.Loc sc x := by
  unfold stB at h
  split at h
  · rename_i e; exact .inl e
  · rename_i e; exact .inr e
  · cases h
theorem fn_at (t : TextOk P wo w mg T) (hf : ∀ (f : Nat) (d : FnD), T.fns[f]? = some d → FnAt P wo w mg base T fuel k f d) (f : Nat) (d : FnD) (hd : T.fns[f]? = some d) : FnAt P wo w mg base T fuel (k + 1) f d := by
  obtain ⟨a, name, qual, params, body, scope, dV, kV, doc, pm, cdv, ct, oc, an, od, osl, lk, hcd, S, hm, hk, hb, hc, hnp⟩ := (t.defs f d hd).ex
  have hpl : (d.N.take d.np).length = d.np := by rw [List.length_take]; omega
  refine ⟨a, _, hm, hk, hb, fun vs H Q E ⟨d', ρ, s, args, e1, e2, e3, e4, _⟩ => ?_, fun A outer s H args us vs Q E hr hg e0 hbt r hsp => ?_⟩
  · rw [hd] at e1; cases e1
    rw [e2.length, hpl]; exact e4
  · obtain ⟨d', ρ, st, args', e1, e2, e3, e4, p⟩ := hsp
    rw [hd] at e1; cases e1
    have hl : vs.length = (d.N.take d.np).length := by rw [e2.length, hpl]; exact e4
    have KX : w.K.In s.heap := e0.mod.kin.keeps fun b o e => (e0.bs b o e).1
    have lim : s.heap.NoLimit := e0.mod.nolimit.keeps fun b o e => (e0.bs b o e).1
    have r1 : Room (2 * k + 1 + 1) A := hr.mono (by omega)
    refine codeAny_call_function r1.depth (KX _ _ lk) rfl S.co S.gen rfl (PySem.W.codeRec_of KX hcd) (hbt _ _ _ _ ?_)
    refine wpAny_newFunctionEnv_cells S.kind (fun ⟨n, v⟩ hy => ?_) fun env he s1 x => ?_
    · rcases S.par n (List.of_mem_zip hy).1 with q | q
      · exact .inl q
      · exact .inr ⟨q, PySem.W.cellsFrom_some _ _ _ (.inl q)⟩
    subst he
    refine ⟨lim.keeps x.toInCall.keep, codeAny_func ?_⟩
    have I := inv_start (CX := CX P wo) (E := E) S r1.hd e0 hl r x
    have G : GoodS w T fuel k d.N scope (fun c d _ H => E c d H) (cxOf (CX P wo) P wo w.K mg base d.N qual scope a cdv A outer s H E) :=
      { hN := rfl, nd := S.nd, hsc := rfl, hK := rfl, calm := rfl, room := r1.deeper _, grd := hg, tk := takes_of rfl rfl rfl rfl, hst := fun x h => ⟨stB_own h, .inl rfl⟩, fns := hf, globs := t.globs, blts := t.blts, cls := t.cls, isi := t.isi
        ps := passes_of rfl, kind := S.kind }
    obtain ⟨tt, pt, q⟩ := (dss_of G d.body body hc).ex
    have len : st.length = ρ.length := e3.len.symm
    have re := repE_start (w := w) (ρ := ρ) (H := H) (d.N.length - d.np) e2
    have hst : L2.start d.N vs = vs.map some ++ List.replicate (d.N.length - d.np) none := by
      unfold L2.start
      rw [hl, hpl]
    rw [hst] at I
    refine wpAny_mono (pt.run [] s1 _ H ⟨fun _ H' => Q .non H', Q, fun _ _ => False, fun _ _ => False⟩ I (q ρ _ H _ st _ re e3 ?_)) (fun fl s' hs => ?_) fun e s' hs => hs
    · unfold callF at p
      rw [hd] at p
      dsimp only at p
      rw [if_pos e4, len] at p
      cases z : evSs (T.C fuel k) fuel d.body (args'.map some ++ List.replicate (d.N.length - d.np) none) st with
      | nx env' S' =>
        rw [z] at p
        intro σ' ρ' H' e1 e2 e3
        obtain ⟨ρ2, x1, x2, x3⟩ := swept_ok (v := .non) (x := .non) e1 (by simp [RepV]) e3
        exact p _ _ _ x1 x2 x3
      | rt v S' =>
        rw [z] at p
        intro x ρ' H' e1 e2 e3
        obtain ⟨ρ2, x1, x2, x3⟩ := swept_ok e1 e2 e3
        exact p _ _ _ x1 x2 x3
      | exc y env' S' =>
        rw [z] at p
        exact fun c d' σ' ρ' H' e1 e2 _ e3 => p c d' ρ' H' e1 e2 e3
      | bk env' S' => rw [z] at p; exact p.elim
      | ct env' S' => rw [z] at p; exact p.elim
      | bad => rw [z] at p; exact p.elim
    · cases fl with
      | ret u =>
        obtain ⟨v, σ', H', J, rv, q⟩ := hs
        exact ⟨v, H', J.os, J.bare, J.base, J.hok, rv, q⟩
      | next =>
        obtain ⟨σ', H', J, q⟩ := hs
        exact ⟨.non, H', J.os, J.bare, J.base, J.hok, rfl, q⟩
      | brk => obtain ⟨_, _, _, q⟩ := hs; exact False.elim q
      | cont => obtain ⟨_, _, _, q⟩ := hs; exact False.elim q
theorem fns_ok (t : TextOk P wo w mg T) : ∀ (k f : Nat) (d : FnD), T.fns[f]? = some d → FnAt P wo w mg base T fuel k f d
  | 0, f, d, hd => by
    obtain ⟨a, name, qual, params, body, scope, dV, kV, doc, pm, cdv, ct, oc, an, od, osl, lk, hcd, S, hm, hk, hb, hc, hnp⟩ := (t.defs f d hd).ex
    refine ⟨a, _, hm, hk, hb, fun vs H Q E ⟨d', ρ, s, args, e1, e2, e3, e4, e5⟩ => e5.elim, fun A outer s H args us vs Q E hr hg e0 hbt r ⟨d', ρ, st, args', e1, e2, e3, e4, e5⟩ => e5.elim⟩
  | k + 1, f, d, hd => fn_at t (fns_ok t k) f d hd
end
end Pd

/-! Pd, part 19: the law's def called on a script. -/
namespace Pd
open PySem PySem.Spec L2

section
variable {P : Program} {wo : World} {w : Wd} {mg mb : Str → Option Value} {T : Tab} {fuel k : Nat}
/-- the script, tracked apart -/
def scrHp (a : Addr) (o : Obj) (xs : List V) : Hp := fun b => if b = a then some (.frz o (.lst xs)) else none
theorem scrHp_at {a : Addr} {o : Obj} {xs : List V} : scrHp a o xs a = some (.frz o (.lst xs)) := if_pos rfl
theorem scrHp_inv {a b : Addr} {o : Obj} {xs : List V} {u : HO} (h : scrHp a o xs b = some u) : b = a ∧ u = .frz o (.lst xs) := by
  unfold scrHp at h
  split at h
  · rename_i e
    cases h
    exact ⟨e, rfl⟩
  · cases h
/-- what one needs of the abstract heap at the start -/
structure Begin (P : Program) (wo : World) (K : PySem.W.Frag) (mg : Str → Option Value) (s : Shared) (a : Addr) (xs : List V) (H : Hp) : Prop where
  env : Env0 P wo K mg (hidT s.heap H) callerA [] s H
  frz : ∀ b u, H b = some u → ∃ o, u = .frz o (.lst xs) ∧ s.heap.get? b = some o
  scr : (∃ o, H a = some (.frz o (.lst xs))) ∨ ∃ (o : Obj) (its : Array Value) (n : Nat), K.lookup a = some o ∧ o.cls = .type "list" ∧ o.dict = none ∧ o.data = .seq its n ∧ its.size ≤ sizeLine ∧ Vals xs its.toList
theorem begin_ok {K : PySem.W.Frag} {a : Addr} {s : Shared} {vs : List Value} {ns : List Int} (KX : K.In s.heap) (hns : s.heap.Ns mainGlobals mg) (hb : s.heap.Ns builtinsNs mb) (hbb : ∀ x : Str, x ≠ "__name__" → mb x = bootBuiltins x) (hlim : s.heap.NoLimit) (hg : s.gens = #[])
    (ha : s.heap.get? a = some { cls := .type "list", data := .seq vs.toArray }) (hi : PyProof.Rows.IntsAre vs ns) (hl : ns.length ≤ sizeLine) : ∃ H, Begin P wo K mg s a (ns.map V.int) H := by
  have rv := vals_ints hi
  have lenV := hi.length
  have main : ∀ H : Hp, (∀ b u, H b = some u → b = a ∧ u = .frz { cls := .type "list", data := .seq vs.toArray } (.lst (ns.map V.int))) → (∀ u, H a = some u → K.lookup a = none) →
      Env0 P wo K mg (hidT s.heap H) callerA [] s H ∧ ∀ b u, H b = some u → ∃ o, u = .frz o (.lst (ns.map V.int)) ∧ s.heap.get? b = some o := by
    intro H hH hK
    have dictOut : ∀ b o es ep, s.heap.get? b = some o → o.data = .dict es ep → H b = none := by
      intro b o es ep e d
      cases q : H b with
      | none => rfl
      | some u =>
        obtain ⟨rfl, _⟩ := hH b u q
        rw [ha] at e
        cases e
        cases d
    have nsH : ∀ b m, s.heap.Ns b m → (hidT s.heap H).Ns b m := by
      rintro b m ⟨o, es, ep, e, d, r⟩
      exact ⟨o, es, ep, hidT_get e (dictOut b o es ep e d), d, r⟩
    have kH : K.In (hidT s.heap H) := by
      intro b o e
      refine hidT_get (KX b o e) ?_
      cases q : H b with
      | none => rfl
      | some u =>
        obtain ⟨rfl, _⟩ := hH b u q
        rw [hK u q] at e
        cases e
    obtain ⟨mc, l1, l2⟩ := hlim
    refine ⟨⟨rfl, ⟨kH, nsH _ _ hns, ⟨mb, nsH _ _ hb, hbb⟩, ⟨mc, nsH _ _ l1, l2⟩⟩, fun b o e => of_hidT e, Nat.le_of_eq (hidT_size _ _), trivial, fun b z => absurd (show b ∈ ([] : List Addr) from z) (by simp), fun b u e => ?_, .of_eq hg⟩, fun b u e => ?_⟩
    · obtain ⟨rfl, rfl⟩ := hH b u e
      exact ⟨ha, by rw [List.length_map]; exact hl, vs, _, rv, ha⟩
    · obtain ⟨rfl, rfl⟩ := hH b u e
      exact ⟨_, rfl, ha⟩
  cases hk : K.lookup a with
  | none =>
    obtain ⟨m1, m2⟩ := main (scrHp a { cls := .type "list", data := .seq vs.toArray } (ns.map V.int)) (fun b u e => scrHp_inv e) fun _ _ => hk
    exact ⟨_, m1, m2, .inl ⟨_, scrHp_at⟩⟩
  | some o =>
    obtain ⟨m1, m2⟩ := main (fun _ => none) (fun b u e => nomatch e) fun u e => nomatch e
    have e := KX a o hk
    rw [ha] at e
    cases e
    exact ⟨_, m1, m2, .inr ⟨_, vs.toArray, _, hk, rfl, rfl, rfl, by rw [List.size_toArray, lenV]; exact hl, by simpa using rv⟩⟩

/-- the law's call -/
theorem law_run (t : TextOk P wo w mg T) {li : Nat} {d : FnD} (hd : T.fns[li]? = some d) (hnp : d.np = 1) {x : Str} (hx : d.N.take 1 = [x]) {a fa : Addr} {s : Shared} {vs : List Value} {ns : List Int} (hfa : mg d.name = some (.ref fa))
    (KX : w.K.In s.heap) (hns : s.heap.Ns mainGlobals mg) (hb : s.heap.Ns builtinsNs mb) (hbb : ∀ x : Str, x ≠ "__name__" → mb x = bootBuiltins x) (hlim : s.heap.NoLimit) (hg : s.gens = #[])
    (ha : s.heap.get? a = some { cls := .type "list", data := .seq vs.toArray }) (hi : PyProof.Rows.IntsAre vs ns) (hl : ns.length ≤ sizeLine) (hr : Room (2 * k) callerA) {S' : Store} (hlaw : callF T fuel k li [.scr ns] [] = .ok (.bl true) S') :
    codeAny (model P wo) callerA (.call (.ref fa) ⟨[.ref a], []⟩) (fun r s' => r = .ok (.ret (.bool true)) ∧ OldK s.heap s'.heap ∧ s'.os = s.os ∧ PyProof.Rows.AllBare s'.gens) s := by
  obtain ⟨H, B⟩ := begin_ok (P := P) (wo := wo) KX hns hb hbb hlim hg ha hi hl
  obtain ⟨a', fd, hm, hk, hbd, F⟩ := (fns_ok (base := hidT s.heap H) (fuel := fuel) t k li d hd).ex
  rw [hfa] at hm
  cases hm
  have e1 : d.N.take d.np = [x] := by rw [hnp]; exact hx
  rw [e1] at hbd F
  have hbt : BindsTo s fd ⟨[.ref a], []⟩ ([x].zip [.ref a]) := by
    have := hbd s [.ref a] KX rfl
    simpa using this
  have rep : RepV w [] H (.scr ns) (.ref a) := by
    simp only [RepV]
    refine ⟨a, rfl, ?_⟩
    rcases B.scr with ⟨o, h⟩ | h
    · exact .inl ⟨by simp, o, h⟩
    · exact .inr h
  have sp : spOf w T fuel k li [.ref a] H (fun v _ => v = .bl true) (fun _ _ _ => False) := by
    refine ⟨d, [], [], [.scr ns], hd, ?_, ⟨rfl, List.nodup_nil, fun i b c h => by simp at h⟩, by rw [hnp]; rfl, ?_⟩
    · simp only [RepVs]
      exact ⟨_, _, rfl, rep, rfl⟩
    · rw [hlaw]
      intro x ρ' H' _ r _
      simpa only [RepV] using r
  refine codeAny_mono (F.run callerA [] s H ⟨[.ref a], []⟩ [.ref a] [.ref a] _ _ hr rfl B.env hbt (.cons rfl .nil) sp) fun r s' h => ?_
  cases r with
  | error e =>
    obtain ⟨_, _, _, _, _, _, _, _, _, _, _, _, z⟩ := h
    exact z.elim
  | ok fl =>
    cases fl with
    | next => exact False.elim h
    | brk => exact False.elim h
    | cont => exact False.elim h
    | ret u =>
      obtain ⟨v, H', os, bare, un, hok', r', q⟩ := h
      have q : v = .bl true := q
      subst q
      have e2 : u = Value.bool true := r'
      subst e2
      refine ⟨rfl, OldK.of_keep fun b o e => ?_, os, bare⟩
      cases q : H b with
      | none => exact un.keep b o e q (by intro z; exact absurd (show b ∈ ([] : List Addr) from z) (by simp)) (by simp)
      | some u =>
        obtain ⟨o2, rfl, e3⟩ := B.frz b u q
        rw [e] at e3
        cases e3
        obtain ⟨e4, _⟩ := hok' b _ (un.frzs b o _ q)
        exact e4
end
/-- the goal that the head leaves -/
theorem law_walk {l : PySem.W.OpenLaw} {n k fuel : Nat} {q : Program} {loose : List Str} {XP : (Str → Option Value) → Heap → Prop} {YP : World → Heap → Prop} {d : DefRec} {K : Params → PySem.W.Frag} {W : PySem.W.Frag → Wd} {T : Tab} {li : Nat} {fd : FnD} {x : Str}
    (hn : l.most = some n) (hn2 : n ≤ sizeLine) (hdf : d.params.defaults = []) (hr : Room (2 * k) callerA) (hY : ∀ (w : World) (h : Heap), YP w h → (K w.params).In h) (hW : ∀ K, (W K).K = K)
    (hd : T.fns[li]? = some fd) (hnm : fd.name = d.name) (hnp : fd.np = 1) (hx : fd.N.take 1 = [x])
    (F : ∀ (w : World) (mg : Str → Option Value) (fa : Addr) (h : Heap), (K w.params).In h → h.Ns mainGlobals mg → mg d.name = some (.ref fa) → TextOk l.prog w (W (K w.params)) mg T)
    (hlaw : ∀ ns : List Int, ns.length ≤ n → ∃ S', callF T fuel k li [.scr ns] [] = .ok (.bl true) S') :
    PySem.W.WalkO q loose XP YP l.row.toRowW d [] (fun f vs => PySem.call f vs) := by
  refine Att.attach_call hn hdf fun w s₀ s₁ mg mb fa o pm cd doc a vs ns G Y ho hd' hcd hmg hobj hints hlen hg => ?_
  have KX := hY w _ Y
  have t := F w mg fa _ KX G.T.g hmg
  obtain ⟨S', e⟩ := hlaw ns hlen
  exact law_run t hd hnp hx (by rw [hnm]; exact hmg) (by rw [hW]; exact KX) G.T.g G.T.b G.T.builtins G.T.nolimit hg hobj hints (Nat.le_trans hlen hn2) hr e
end Pd

/-! Pd, part 20: what the head gives, put together. -/
namespace Pd
open PySem PySem.Spec L2

/-- no class of the text's own -/
abbrev plainW (K : PySem.W.Frag) : Wd := ⟨K, fun _ => none, fun _ => none⟩
theorem isi_std (K : PySem.W.Frag) : ∀ (t : Option Ty) (c : Ty) (u v : Value), tyVal (plainW K) t = some u → tyVal (plainW K) (some c) = some v → PySem.W.kitOne K u v = some (tyMatch t c) := by
  intro t c u v hu hv
  cases c <;> simp only [tyVal] at hv <;> first | (cases hv; done) | skip
  all_goals
    cases hv
    rcases t with _ | t
    · simp only [tyVal] at hu
      cases hu
      exact kit_ty (by decide +kernel)
    · cases t <;> simp only [tyVal] at hu <;> first | (cases hu; done) | skip
      all_goals
        cases hu
        exact kit_ty (by decide +kernel)
section
variable {P : Program} {wo : World} {K : PySem.W.Frag} {h : Heap} {mg : Str → Option Value} {T : Tab}
theorem mk_def {d : FnD} {st : Stmt} {f : Addr} {oc kV dc pm cd ct : Value} {od an : Option Addr} {sl : Array (Option Value)} (X : K.In h) (G : h.Ns mainGlobals mg) (n : Str) (hn : d.name = n) (a : PySem.W.nsIn K mainGlobals n = some (some (.ref f)))
    (l : K.lookup f = some ⟨oc, od, .func (PySem.W.fnOf n n (defArgs st) (defBody st) (defScope st) .none kV dc pm an cd ct), sl⟩) (c : PySem.W.codeIn K cd n = true) (k : PySem.W.keepIn K (.ref f) = true) (S : FnScope d.N (d.N.take d.np) (defScope st))
    (hb : ∀ (kV doc pm : Value) (an : Option Addr) (cdv ct : Value) (us : List Value), us.length = (d.N.take d.np).length → bindArgs (PySem.W.fnOf n n (defArgs st) (defBody st) (defScope st) .none kV doc pm an cdv ct) ⟨us, []⟩ = pure ((d.N.take d.np).zip us))
    (hc : chkSs T d.N (defScope st) d.body (defBody st) = true) (hp : d.np ≤ d.N.length) : DefAt P wo (plainW K) mg T d :=
  ⟨f, n, n, defArgs st, defBody st, defScope st, .none, kV, dc, pm, cd, ct, oc, an, od, sl, l, c, S, by rw [hn]; exact PySem.W.mg_of X G a, k, .all fun us hl => hb kV dc pm an cd ct us hl, hc, hp⟩
theorem mk_text (hd : ∀ (f : Nat) (d : FnD), T.fns[f]? = some d → DefAt P wo (plainW K) mg T d) (hg : T.globs = []) (hb : ∀ x ∈ T.blts, mg x = none) : TextOk P wo (plainW K) mg T where
  defs := hd
  globs := fun g x v e => by rw [hg] at e; cases e
  blts := hb
  cls := fun c C ns e => by cases e
  isi := fun t c u v _ h1 h2 => isi_std K t c u v h1 h2
end
end Pd

/-! Pd, part 21: reasoning about the evaluator. -/
namespace Pd
open PySem L2

def Ev {α : Type} (r : Res α) (Q : α → Store → Prop) : Prop := match r with
  | .ok a S => Q a S
  | _ => False
def Out (r : RS) (I : Env → Store → Prop) (R : Val → Store → Prop) : Prop := match r with
  | .nx e S => I e S
  | .rt v S => R v S
  | _ => False
section
variable {α β : Type}
theorem Ev.imp {r : Res α} {Q Q' : α → Store → Prop} (h : Ev r Q) (f : ∀ a S, Q a S → Q' a S) : Ev r Q' := by
  cases r <;> first | exact f _ _ h | exact h.elim
theorem Ev.get {r : Res α} {Q : α → Store → Prop} (h : Ev r Q) : ∃ a S, r = .ok a S ∧ Q a S := by
  cases r <;> first | exact ⟨_, _, rfl, h⟩ | exact h.elim
theorem Out.imp {r : RS} {I I' : Env → Store → Prop} {R R' : Val → Store → Prop} (h : Out r I R) (f : ∀ e S, I e S → I' e S) (g : ∀ v S, R v S → R' v S) : Out r I' R' := by
  cases r <;> first | exact f _ _ h | exact g _ _ h | exact h.elim
theorem ev_ok {a : α} {S : Store} {Q : α → Store → Prop} : Ev (.ok a S) Q = Q a S := rfl
theorem ev_bad {Q : α → Store → Prop} : Ev (.bad : Res α) Q = False := rfl
theorem ev_pure {a : α} {S : Store} {Q : α → Store → Prop} : Ev ((pure a : M α) S) Q = Q a S := rfl
theorem ev_bind {m : M α} {f : α → M β} {S : Store} {Q : β → Store → Prop} : Ev ((m >>= f) S) Q = Ev (m S) fun a S' => Ev (f a S') Q := by
  rw [bind_app]
  cases m S <;> rfl
theorem ev_need {b : Bool} {S : Store} {Q : Unit → Store → Prop} : Ev (need b S) Q = (b = true ∧ Q () S) := by
  unfold need
  cases b <;> simp [Ev]
theorem ev_ofOpt {o : Option α} {S : Store} {Q : α → Store → Prop} : Ev (ofOpt o S) Q = ∃ a, o = some a ∧ Q a S := by
  unfold ofOpt
  cases o <;> simp [Ev]
theorem ev_alloc {c : Cell} {S : Store} {Q : Val → Store → Prop} : Ev (alloc c S) Q = Q (.ref S.length) (S ++ [c]) := rfl
theorem ev_truth {v : Val} {S : Store} {Q : Bool → Store → Prop} : Ev (truthM v S) Q = ∃ b, truth S v = some b ∧ Q b S := by
  unfold truthM
  cases truth S v <;> simp [Ev]
theorem ev_noExc {m : M α} {S : Store} {Q : α → Store → Prop} : Ev (noExc m S) Q = Ev (m S) Q := by
  unfold noExc
  cases m S <;> rfl
theorem ev_ite {c : Prop} [Decidable c] {m n : M α} {S : Store} {Q : α → Store → Prop} : Ev ((if c then m else n) S) Q = if c then Ev (m S) Q else Ev (n S) Q := by
  split <;> rfl
theorem out_then {r : Res α} {env : Env} {f : α → Store → RS} {I : Env → Store → Prop} {R : Val → Store → Prop} : Out (r.then env f) I R = Ev r fun a S => Out (f a S) I R := by
  cases r <;> rfl
theorem out_nx {env : Env} {S : Store} {I : Env → Store → Prop} {R : Val → Store → Prop} : Out (.nx env S) I R = I env S := rfl
theorem out_rt {v : Val} {S : Store} {I : Env → Store → Prop} {R : Val → Store → Prop} : Out (.rt v S) I R = R v S := rfl
theorem out_seq {r : RS} {f : Env → Store → RS} {I : Env → Store → Prop} {R : Val → Store → Prop} : Out (r.seq f) I R = Out r (fun e S => Out (f e S) I R) R := by
  cases r <;> rfl
theorem out_ite {b : Bool} {r r' : RS} {I : Env → Store → Prop} {R : Val → Store → Prop} : Out (if b = true then r else r') I R = if b = true then Out r I R else Out r' I R := by
  cases b <;> rfl
end

/-- what a call leaves -/
theorem swept_at {n : Nat} {v : Val} {S : Store} {i : Nat} (h : i < n) : (swept n v S)[i]? = S[i]? := by
  unfold swept
  split
  · rw [List.getElem?_take_of_lt h]
  · rfl
theorem swept_le {n : Nat} {v : Val} {S : Store} (h : n ≤ S.length) : n ≤ (swept n v S).length := by
  unfold swept
  split
  · rw [List.length_take]; omega
  · exact h
theorem swept_same {n : Nat} {v : Val} {S : Store} (h : S.length = n) : swept n v S = S := by
  unfold swept
  split
  · rw [List.take_of_length_le (by omega)]
  · rfl
theorem swept_new {n r : Nat} {S : Store} (h : n ≤ r) : swept n (.ref r) S = S := by
  unfold swept
  rw [if_neg]
  simp only [refsLt, Bool.and_eq_true, decide_eq_true_eq]
  omega
/-- a call, by its body -/
theorem ev_call {T : Tab} {fuel k f : Nat} {args : List Val} {S : Store} {Q : Val → Store → Prop} {d : FnD} (hd : T.fns[f]? = some d) (hn : args.length = d.np)
    (h : Out (evSs (T.C fuel k) fuel d.body (args.map some ++ List.replicate (d.N.length - d.np) none) S) (fun _ S' => Q .non (swept S.length .non S')) (fun v S' => Q v (swept S.length v S'))) : Ev (callF T fuel (k + 1) f args S) Q := by
  unfold callF
  rw [hd]
  dsimp only
  rw [if_pos hn]
  revert h
  generalize evSs (T.C fuel k) fuel d.body (args.map some ++ List.replicate (d.N.length - d.np) none) S = r
  intro h
  cases r <;> first | exact h | exact h.elim

/-- a for over things that stay -/
theorem out_for {xs : List Val} {put : Store → Val → Env → Option Env} {body : Env → Store → RS} {R : Val → Store → Prop} {src : Src} (pair : Nat → Val → Val) (J : Nat → Env → Store → Prop) (hsrc : ∀ k env S, J k env S → src.at S k = some (xs[k]?.map (pair k)))
    (step : ∀ k x env S, xs[k]? = some x → J k env S → ∃ env1, put S (pair k x) env = some env1 ∧ Out (body env1 S) (J (k + 1)) R) :
    ∀ (n i : Nat) (env : Env) (S : Store), i + n = xs.length → J i env S → Out (forLoop src put body n i env S) (J xs.length) R := by
  intro n
  induction n with
  | zero =>
    intro i env S hi hJ
    rw [forLoop_eq, hsrc i env S hJ, List.getElem?_eq_none (by omega)]
    have e : i = xs.length := by omega
    rw [← e]
    exact hJ
  | succ n ih =>
    intro i env S hi hJ
    have hlt : i < xs.length := by omega
    have ex : xs[i]? = some xs[i] := List.getElem?_eq_getElem hlt
    obtain ⟨env1, h1, h2⟩ := step i _ env S ex hJ
    rw [forLoop_eq, hsrc i env S hJ, ex]
    dsimp only [Option.map]
    rw [h1]
    dsimp only
    cases q : body env1 S with
    | nx e2 S2 =>
      rw [q] at h2
      exact ih (i + 1) e2 S2 (by omega) h2
    | rt v S2 => rw [q] at h2; exact h2
    | bk e2 S2 => rw [q] at h2; exact h2.elim
    | ct e2 S2 => rw [q] at h2; exact h2.elim
    | exc x e2 S2 => rw [q] at h2; exact h2.elim
    | bad => rw [q] at h2; exact h2.elim
/-- a list comprehension over things that stay -/
theorem ev_comp {xs : List Val} {put : Store → Val → Option Env} {keep : Env → M Bool} {elt : Env → M Val} {src : Src} (pair : Nat → Val → Val) (J : Nat → List Val → Store → Prop) (hsrc : ∀ k acc S, J k acc S → src.at S k = some (xs[k]?.map (pair k)))
    (step : ∀ k x acc S, xs[k]? = some x → acc.length ≤ k → J k acc S → ∃ env1, put S (pair k x) = some env1 ∧ Ev (keep env1 S) fun b S1 => if b = true then Ev (elt env1 S1) fun v S2 => J (k + 1) (acc ++ [v]) S2 else J (k + 1) acc S1) (hz : xs.length ≤ sizeMax) :
    ∀ (n i : Nat) (acc : List Val) (S : Store), i + n = xs.length → acc.length ≤ i → J i acc S → Ev (compLoop src put keep elt n i acc S) fun l S' => J xs.length l S' ∧ l.length ≤ xs.length := by
  intro n
  induction n with
  | zero =>
    intro i acc S hi ha hJ
    rw [compLoop_eq, hsrc i acc S hJ, List.getElem?_eq_none (by omega)]
    have e : i = xs.length := by omega
    rw [← e]
    exact ⟨hJ, ha⟩
  | succ n ih =>
    intro i acc S hi ha hJ
    have hlt : i < xs.length := by omega
    have ex : xs[i]? = some xs[i] := List.getElem?_eq_getElem hlt
    obtain ⟨env1, h1, h2⟩ := step i _ acc S ex ha hJ
    rw [compLoop_eq, hsrc i acc S hJ, ex]
    dsimp only [Option.map]
    rw [h1]
    dsimp only
    rw [ev_bind]
    refine h2.imp fun b S1 h3 => ?_
    cases b with
    | false =>
      rw [if_neg Bool.false_ne_true] at h3 ⊢
      exact ih (i + 1) acc S1 (by omega) (by omega) h3
    | true =>
      rw [if_pos rfl] at h3 ⊢
      rw [ev_bind]
      refine h3.imp fun v S2 h4 => ?_
      rw [ev_bind, ev_need]
      refine ⟨by simpa using (show acc.length < sizeMax by omega), ih (i + 1) _ S2 (by omega) (by simp; omega) h4⟩
/-- a dict comprehension over things that stay -/
theorem ev_dcomp {xs : List Val} {put : Store → Val → Option Env} {keep : Env → M Bool} {key elt : Env → M Val} {src : Src} (pair : Nat → Val → Val) (J : Nat → List (DKey × Val) → Store → Prop) (hsrc : ∀ k acc S, J k acc S → src.at S k = some (xs[k]?.map (pair k)))
    (step : ∀ k x acc S, xs[k]? = some x → J k acc S → ∃ env1, put S (pair k x) = some env1 ∧ Ev (keep env1 S) fun b S1 => if b = true then Ev (key env1 S1) fun y S2 => Ev (elt env1 S2) fun v S3 => ∃ q, keyOf y = some q ∧ acc.length < sizeMax ∧ J (k + 1) (putV acc q v) S3 else J (k + 1) acc S1) :
    ∀ (n i : Nat) (acc : List (DKey × Val)) (S : Store), i + n = xs.length → J i acc S → Ev (dcompLoop src put keep key elt n i acc S) fun l S' => J xs.length l S' := by
  intro n
  induction n with
  | zero =>
    intro i acc S hi hJ
    rw [dcompLoop_eq, hsrc i acc S hJ, List.getElem?_eq_none (by omega)]
    have e : i = xs.length := by omega
    rw [← e]
    exact hJ
  | succ n ih =>
    intro i acc S hi hJ
    have hlt : i < xs.length := by omega
    have ex : xs[i]? = some xs[i] := List.getElem?_eq_getElem hlt
    obtain ⟨env1, h1, h2⟩ := step i _ acc S ex hJ
    rw [dcompLoop_eq, hsrc i acc S hJ, ex]
    dsimp only [Option.map]
    rw [h1]
    dsimp only
    rw [ev_bind]
    refine h2.imp fun b S1 h3 => ?_
    cases b with
    | false =>
      rw [if_neg Bool.false_ne_true] at h3 ⊢
      exact ih (i + 1) acc S1 (by omega) h3
    | true =>
      rw [if_pos rfl] at h3 ⊢
      rw [ev_bind]
      refine h3.imp fun y S2 h4 => ?_
      rw [ev_bind]
      refine h4.imp fun v S3 h5 => ?_
      obtain ⟨q, e1, e2, e3⟩ := h5
      rw [e1]
      dsimp only
      rw [ev_bind, ev_need]
      exact ⟨by simpa using e2, ih (i + 1) _ S3 (by omega) e3⟩
end Pd

/-! Pd, part 22: values that are trees, compared and shown. -/
namespace Pd
open PySem L2

mutual
/-- a tree of None, bools, ints, texts, tuples -/
def sim : Val → Bool
  | .non => true
  | .bl _ => true
  | .int _ => true
  | .str x => PyData.strOk x
  | .tup xs => sims xs
  | _ => false
def sims : List Val → Bool
  | [] => true
  | x :: xs => sim x && sims xs
end
mutual
def toD : Val → PyData
  | .non => .none
  | .bl b => .bool b
  | .int i => .int i
  | .str x => .str x
  | .tup xs => .tuple (toDs xs)
  | _ => .none
def toDs : List Val → List PyData
  | [] => []
  | x :: xs => toD x :: toDs xs
end
mutual
def vdep : Val → Nat
  | .tup xs => vdeps xs + 1
  | _ => 0
def vdeps : List Val → Nat
  | [] => 0
  | x :: xs => max (vdep x) (vdeps xs)
end
mutual
theorem dat_sim {S : Store} : ∀ (v : Val) (n : Nat), sim v = true → vdep v ≤ n → dat S n v = some (toD v)
  | .non, n, _, _ => by cases n <;> simp [dat, toD]
  | .bl _, n, _, _ => by cases n <;> simp [dat, toD]
  | .int _, n, _, _ => by cases n <;> simp [dat, toD]
  | .str _, n, _, _ => by cases n <;> simp [dat, toD]
  | .tup xs, n, h, hn => by
    simp only [sim] at h
    simp only [vdep] at hn
    cases n with
    | zero => omega
    | succ n =>
      unfold dat
      rw [dats_sim xs n h (by omega)]
      simp [toD]
  | .ins _ _, _, h, _ => by simp [sim] at h
  | .scr _, _, h, _ => by simp [sim] at h
  | .ref _, _, h, _ => by simp [sim] at h
theorem dats_sim {S : Store} : ∀ (vs : List Val) (n : Nat), sims vs = true → vdeps vs ≤ n → optMap (dat S n) vs = some (toDs vs)
  | [], n, _, _ => rfl
  | v :: vs, n, h, hn => by
    simp only [sims, Bool.and_eq_true] at h
    simp only [vdeps] at hn
    unfold optMap
    rw [dat_sim v n h.1 (by omega), dats_sim vs n h.2 (by omega)]
    rfl
end
mutual
theorem lay_sim : ∀ v : Val, sim v = true → (toD v).canLay0 = true ∧ (toD v).depth = vdep v
  | .non, _ => by simp [toD, PyData.canLay0, PyData.depth, vdep]
  | .bl _, _ => by simp [toD, PyData.canLay0, PyData.depth, vdep]
  | .int _, _ => by simp [toD, PyData.canLay0, PyData.depth, vdep]
  | .str x, h => by
    simp only [sim] at h
    simp [toD, PyData.canLay0, PyData.depth, vdep, h]
  | .tup xs, h => by
    simp only [sim] at h
    obtain ⟨a, b⟩ := lays_sim xs h
    simp [toD, PyData.canLay0, PyData.depth, vdep, a, b]
  | .ins _ _, h => by simp [sim] at h
  | .scr _, h => by simp [sim] at h
  | .ref _, h => by simp [sim] at h
theorem lays_sim : ∀ vs : List Val, sims vs = true → PyData.canLayAll0 (toDs vs) = true ∧ PyData.depthAll (toDs vs) = vdeps vs
  | [], _ => by simp [toDs, PyData.canLayAll0, PyData.depthAll, vdeps]
  | v :: vs, h => by
    simp only [sims, Bool.and_eq_true] at h
    obtain ⟨a, b⟩ := lay_sim v h.1
    obtain ⟨c, d⟩ := lays_sim vs h.2
    simp [toDs, PyData.canLayAll0, PyData.depthAll, vdeps, a, b, c, d]
end
theorem toDs_len : ∀ vs : List Val, (toDs vs).isEmpty = vs.isEmpty
  | [] => rfl
  | _ :: _ => rfl
theorem shaped_list {vs : List Val} (h : sims vs = true) (hd : vdeps vs ≤ 60) : SeqAt.shaped (.list (toDs vs)) = true := by
  obtain ⟨a, b⟩ := lays_sim vs h
  unfold SeqAt.shaped
  simp [PyData.canLay0, PyData.depth, a, b]
  omega
theorem shaped_sim {v : Val} (h : sim v = true) (hd : vdep v ≤ 60) : SeqAt.shaped (toD v) = true := by
  obtain ⟨a, b⟩ := lay_sim v h
  unfold SeqAt.shaped
  simp [a, b]
  omega
/-- a list of the store's as data -/
theorem dat_list {S : Store} {i n : Nat} {xs : List Val} (h : S[i]? = some (.lst xs)) (hs : sims xs = true) (hd : vdeps xs ≤ n) : dat S (n + 1) (.ref i) = some (.list (toDs xs)) := by
  unfold dat
  rw [h]
  dsimp only
  rw [dats_sim xs n hs hd]
  rfl
theorem eqvAll_nil : ∀ ds : List PyData, PyData.eqvAll ds [] = ds.isEmpty
  | [] => by simp [PyData.eqvAll]
  | _ :: _ => by simp [PyData.eqvAll]
/-- a list == [] -/
theorem eq_nil {S : Store} {i j : Nat} {xs : List Val} (h : S[i]? = some (.lst xs)) (hj : S[j]? = some (.lst [])) (hs : sims xs = true) (hd : vdeps xs ≤ 59) : eqV S (.ref i) (.ref j) = some xs.isEmpty := by
  unfold eqV
  dsimp only
  rw [dat_list (n := 59) h hs hd, dat_list (n := 59) (xs := []) hj rfl (by simp [vdeps])]
  dsimp only
  rw [shaped_list hs (by omega), shaped_list (vs := []) rfl (by simp [vdeps])]
  simp [PyData.eqv, toDs, eqvAll_nil, toDs_len]
theorem sims_ints (ns : List Int) : sims (ns.map .int) = true ∧ vdeps (ns.map .int) = 0 := by
  induction ns with
  | nil => exact ⟨rfl, rfl⟩
  | cons n ns ih => simp [sims, sim, vdeps, vdep, ih.1, ih.2]
theorem sims_append {xs ys : List Val} : sims (xs ++ ys) = (sims xs && sims ys) := by
  induction xs with
  | nil => rfl
  | cons x xs ih => simp [sims, ih, Bool.and_assoc]
theorem vdeps_append {xs ys : List Val} : vdeps (xs ++ ys) = max (vdeps xs) (vdeps ys) := by
  induction xs with
  | nil => simp [vdeps]
  | cons x xs ih => simp only [List.cons_append, vdeps, ih]; omega
end Pd

/-! Pd, part 23: steps of the evaluator, one by one. -/
namespace Pd
open PySem L2
section
variable {S : Store} {Q : Val → Store → Prop} {i j : Int} {d c : Nat} {xs ys : List Val} {v u : Val} {x y : Str}
theorem ev_add : Ev (binV .add (.int i) (.int j) S) Q = Q (.int (i + j)) S := rfl
theorem ev_sub : Ev (binV .sub (.int i) (.int j) S) Q = Q (.int (i - j)) S := rfl
theorem ev_mul (h : mulFits i j = true) : Ev (binV .mul (.int i) (.int j) S) Q = Q (.int (i * j)) S := by
  show Ev ((if mulFits i j then pure (.int (i * j)) else stuck : M Val) S) Q = _
  rw [if_pos h]; rfl
theorem ev_mod (h : j ≠ 0) : Ev (binV .mod (.int i) (.int j) S) Q = Q (.int (i.fmod j)) S := by
  show Ev ((if j ≠ 0 then pure (.int (i.fmod j)) else stuck : M Val) S) Q = _
  rw [if_pos h]; rfl
theorem ev_fdiv (h : divFits j = true) : Ev (binV .fdiv (.int i) (.int j) S) Q = Q (.int (i.fdiv j)) S := by
  show Ev ((if divFits j then pure (.int (i.fdiv j)) else stuck : M Val) S) Q = _
  rw [if_pos h]; rfl
theorem ev_pow (h : powFits i j = true) : Ev (binV .pow (.int i) (.int j) S) Q = Q (.int (i ^ j.toNat)) S := by
  show Ev ((if powFits i j then pure (.int (i ^ j.toNat)) else stuck : M Val) S) Q = _
  rw [if_pos h]; rfl
theorem ev_cat (h : x.length + y.length ≤ sizeMax) : Ev (binV .add (.str x) (.str y) S) Q = Q (.str (x ++ y)) S := by
  show Ev ((if x.length + y.length ≤ sizeMax then pure (.str (x ++ y)) else stuck : M Val) S) Q = _
  rw [if_pos h]; rfl
theorem ev_catT (h : xs.length + ys.length ≤ sizeMax) : Ev (binV .add (.tup xs) (.tup ys) S) Q = Q (.tup (xs ++ ys)) S := by
  show Ev ((if xs.length + ys.length ≤ sizeMax then pure (.tup (xs ++ ys)) else stuck : M Val) S) Q = _
  rw [if_pos h]; rfl
theorem ev_catL (h : S[c]? = some (.lst xs)) (h' : S[d]? = some (.lst ys)) (hz : xs.length + ys.length ≤ sizeMax) : Ev (binV .add (.ref c) (.ref d) S) Q = Q (.ref S.length) (S ++ [.lst (xs ++ ys)]) := by
  show Ev (catL c d S) Q = _
  unfold catL
  rw [h, h']
  dsimp only
  rw [if_pos hz]; rfl
theorem ev_repL (h : S[c]? = some (.lst xs)) (h0 : -(2 ^ 63) ≤ j) (h1 : j < 2 ^ 63) (hz : xs.length * j.toNat ≤ sizeMax) : Ev (binV .mul (.ref c) (.int j) S) Q = Q (.ref S.length) (S ++ [.lst (List.replicate j.toNat xs).flatten]) := by
  show Ev (repL c j S) Q = _
  unfold repL
  rw [h]
  dsimp only
  rw [if_pos (by simp only [Bool.and_eq_true, decide_eq_true_eq]; exact ⟨⟨h0, h1⟩, hz⟩)]; rfl
theorem ev_lt : Ev (cmpV .lt (.int i) (.int j) S) Q = Q (.bl (decide (i < j))) S := rfl
theorem ev_le : Ev (cmpV .le (.int i) (.int j) S) Q = Q (.bl (decide (i ≤ j))) S := rfl
theorem ev_gt : Ev (cmpV .gt (.int i) (.int j) S) Q = Q (.bl (decide (j < i))) S := rfl
theorem ev_ge : Ev (cmpV .ge (.int i) (.int j) S) Q = Q (.bl (decide (j ≤ i))) S := rfl
theorem ev_eqI : Ev (cmpV .eq (.int i) (.int j) S) Q = Q (.bl (decide (i = j))) S := rfl
theorem ev_neI : Ev (cmpV .ne (.int i) (.int j) S) Q = Q (.bl (!decide (i = j))) S := rfl
theorem ev_eqS : Ev (cmpV .eq (.str x) (.str y) S) Q = Q (.bl (decide (x = y))) S := rfl
theorem ev_neS : Ev (cmpV .ne (.str x) (.str y) S) Q = Q (.bl (!decide (x = y))) S := rfl
theorem ev_eq {b : Bool} (h : eqV S u v = some b) : Ev (cmpV .eq u v S) Q = Q (.bl b) S := by
  unfold cmpV
  dsimp only
  rw [h]; rfl
theorem ev_ne {b : Bool} (h : eqV S u v = some b) : Ev (cmpV .ne u v S) Q = Q (.bl (!b)) S := by
  unfold cmpV
  dsimp only
  rw [h]; rfl
theorem ev_in {b : Bool} (h : inV S u v = some b) : Ev (cmpV .isIn u v S) Q = Q (.bl b) S := by
  unfold cmpV
  dsimp only
  rw [h]; rfl
theorem ev_nin {b : Bool} (h : inV S u v = some b) : Ev (cmpV .notIn u v S) Q = Q (.bl (!b)) S := by
  unfold cmpV
  dsimp only
  rw [h]; rfl
theorem ev_tb {b : Bool} {Q : Bool → Store → Prop} : Ev (truthM (.bl b) S) Q = Q b S := rfl
theorem ev_idxL (h : S[d]? = some (.lst xs)) (ha : L2.atI xs i = some v) : Ev (idxV (.ref d) (.int i) S) Q = Q v S := by
  show Ev (idxStore d (.int i) S) Q = _
  unfold idxStore
  rw [h]
  dsimp only
  rw [ha]; rfl
theorem ev_idxD {kvs : List (DKey × Val)} {q : DKey} (h : S[d]? = some (.dct kvs)) (hk : keyOf u = some q) (ha : lookV kvs q = some v) : Ev (idxV (.ref d) u S) Q = Q v S := by
  show Ev (idxStore d u S) Q = _
  unfold idxStore
  rw [h]
  dsimp only
  rw [hk]
  dsimp only
  rw [ha]; rfl
theorem ev_idxT (ha : L2.atI xs i = some v) : Ev (idxV (.tup xs) (.int i) S) Q = Q v S := by
  show Ev (ofOpt (L2.atI xs i) S) Q = _
  rw [ha]; rfl
theorem ev_idxS {n : Nat} (hz : x.length ≤ sizeMax) (ha : L2.atI x.cps.toList i = some n) : Ev (idxV (.str x) (.int i) S) Q = Q (.str ⟨#[n]⟩) S := by
  show Ev ((if x.length ≤ sizeMax then ofOpt ((L2.atI x.cps.toList i).map fun c => Val.str ⟨#[c]⟩) else stuck : M Val) S) Q = _
  rw [if_pos hz, ha]; rfl
theorem ev_setL {Q : Unit → Store → Prop} {n : Nat} (h : S[d]? = some (.lst xs)) (hj : L2.ixN xs.length i = some n) : Ev (setV (.ref d) (.int i) v S) Q = Q () (S.set d (.lst (xs.set n v))) := by
  unfold setV
  dsimp only
  rw [h]
  dsimp only
  rw [hj]; rfl
theorem ev_setD {Q : Unit → Store → Prop} {kvs : List (DKey × Val)} {q : DKey} (h : S[d]? = some (.dct kvs)) (hk : keyOf u = some q) (hz : kvs.length < sizeMax) : Ev (setV (.ref d) u v S) Q = Q () (S.set d (.dct (putV kvs q v))) := by
  unfold setV
  dsimp only
  rw [h]
  dsimp only
  rw [hk]
  dsimp only
  rw [if_pos hz]; rfl
theorem ev_recv {m : Bm} {Q : Unit → Store → Prop} (h : recvB S m u = true) : Ev (recv m u S) Q = Q () S := by
  unfold recv
  rw [if_pos h]; rfl
theorem recv_lst {m : Bm} (hm : lm m = true) (h : S[d]? = some (.lst xs)) : recvB S m (.ref d) = true := by
  cases m <;> first | (cases hm; done) | (show isLstV S (.ref d) = true; unfold isLstV; dsimp only; rw [h])
theorem ev_pop (h : S[d]? = some (.lst xs)) (hv : xs[xs.length - 1]? = some v) : Ev (bmV .pop (.ref d) [] S) Q = Q v (S.set d (.lst xs.dropLast)) := by
  show Ev (popV d S) Q = _
  unfold popV
  rw [h]
  dsimp only
  rw [hv]; rfl
theorem ev_popAt {n : Nat} (h : S[d]? = some (.lst xs)) (h0 : -(2 ^ 63) ≤ i) (h1 : i < 2 ^ 63) (hn : seqIndex? i xs.length = some n) (hv : xs[n]? = some v) : Ev (bmV .popAt (.ref d) [.int i] S) Q = Q v (S.set d (.lst (xs.eraseIdx n))) := by
  show Ev (popAtV d i S) Q = _
  unfold popAtV
  rw [h]
  dsimp only
  rw [if_pos (by simp only [Bool.and_eq_true, decide_eq_true_eq]; exact ⟨h0, h1⟩), hn]
  dsimp only
  rw [hv]; rfl
theorem ev_append (h : S[d]? = some (.lst xs)) (hz : xs.length < sizeMax) : Ev (bmV .append (.ref d) [v] S) Q = Q .non (S.set d (.lst (xs ++ [v]))) := by
  show Ev (appendV d v S) Q = _
  unfold appendV
  rw [h]
  dsimp only
  rw [if_pos hz]; rfl
theorem ev_len {l : List Val} (h : seqOf S u = some l) : Ev (biV .len [u] S) Q = Q (.int l.length) S := by
  show Ev (lenV u S) Q = _
  unfold lenV
  cases u <;> first | (simp [seqOf] at h; done) | (dsimp only; rw [h]; rfl)
theorem ev_ite' {b : Bool} {α : Type} {m n : M α} {Q : α → Store → Prop} : Ev ((if b = true then m else n) S) Q = if b = true then Ev (m S) Q else Ev (n S) Q := by
  cases b <;> rfl
end
theorem set_at {S : Store} {d : Nat} {x y : Cell} (h : S[d]? = some y) : (S.set d x)[d]? = some x := by
  have := (List.getElem?_eq_some_iff.mp h).1
  rw [List.getElem?_set_self this]
theorem snoc_old {S : Store} {i : Nat} {x y : Cell} (h : S[i]? = some y) : (S ++ [x])[i]? = some y := by
  rw [List.getElem?_append_left (List.getElem?_eq_some_iff.mp h).1]; exact h
theorem snoc_new {S : Store} {x : Cell} : (S ++ [x])[S.length]? = some x := by simp
theorem at3_0 {a b c : Val} : L2.atI [a, b, c] 0 = some a := rfl
theorem at3_1 {a b c : Val} : L2.atI [a, b, c] 1 = some b := rfl
theorem at3_2 {a b c : Val} : L2.atI [a, b, c] 2 = some c := rfl
theorem small_fits {a b : Int} (h : -(2 ^ 64) < a ∧ a < 2 ^ 64 ∨ -(2 ^ 64) < b ∧ b < 2 ^ 64) : mulFits a b = true := by
  unfold mulFits intSmall
  simp only [Bool.or_eq_true, Bool.and_eq_true, decide_eq_true_eq]
  rcases h with h | h
  · exact .inl (.inl h)
  · exact .inl (.inr h)
theorem div_fits {b : Int} (h0 : b ≠ 0) (h : b.natAbs < 2 ^ 9000) : divFits b = true := by
  unfold divFits
  simp only [Bool.and_eq_true, decide_eq_true_eq]
  refine ⟨h0, ?_⟩
  exact (Nat.log2_lt (by omega)).mpr h
/-- the first cells stay -/
def Old (S S' : Store) : Prop := S.length ≤ S'.length ∧ ∀ i, i < S.length → S'[i]? = S[i]?
theorem Old.refl (S : Store) : Old S S := ⟨Nat.le_refl _, fun _ _ => rfl⟩
theorem Old.trans {S S1 S2 : Store} (a : Old S S1) (b : Old S1 S2) : Old S S2 := ⟨Nat.le_trans a.1 b.1, fun i h => (b.2 i (Nat.lt_of_lt_of_le h a.1)).trans (a.2 i h)⟩
theorem Old.snoc {S : Store} {x : Cell} : Old S (S ++ [x]) := ⟨by simp, fun j hj => by rw [List.getElem?_append_left hj]⟩
theorem Old.at {S S' : Store} {i : Nat} {x : Cell} (o : Old S S') (h : S[i]? = some x) : S'[i]? = some x := (o.2 i (List.getElem?_eq_some_iff.mp h).1).trans h
theorem Old.set {S S' : Store} {i : Nat} {x : Cell} (o : Old S S') (h : S.length ≤ i) : Old S (S'.set i x) := ⟨by simpa using o.1, fun j hj => by rw [List.getElem?_set_ne (by omega)]; exact o.2 j hj⟩
theorem Old.sweep {S S' : Store} {v : Val} (o : Old S S') : Old S (swept S.length v S') := ⟨swept_le o.1, fun i h => by rw [swept_at h]; exact o.2 i h⟩
theorem ev_tuple {S : Store} {Q : Val → Store → Prop} {u : Val} {l : List Val} (h : lstOf S u = some l) : Ev (biV .tuple [u] S) Q = Q (.tup l) S := by
  show Ev (tupF u S) Q = _
  unfold tupF
  cases u <;> first | (simp [lstOf] at h; done) | (dsimp only; rw [h]; rfl)
theorem lstOf_at {S : Store} {i : Nat} {l : List Val} (h : S[i]? = some (.lst l)) : lstOf S (.ref i) = some l := by
  unfold lstOf
  dsimp only
  rw [h]
theorem seqOf_at {S : Store} {i : Nat} {l : List Val} (h : S[i]? = some (.lst l)) : seqOf S (.ref i) = some l := by
  unfold seqOf
  dsimp only
  rw [h]
theorem ev_isin {S : Store} {Q : Val → Store → Prop} {ts : List Ty} {v : Val} : Ev (isinV ts v S) Q = Q (.bl (ts.any (tyMatch (tyV S v)))) S := rfl
theorem ev_srcL {S : Store} {Q : Src → Store → Prop} {i : Nat} {l : List Val} (h : S[i]? = some (.lst l)) : Ev (srcV (.ref i) S) Q = Q (.dyn i) S := by
  unfold srcV
  dsimp only
  rw [h]; rfl
theorem ev_srcT {S : Store} {Q : Src → Store → Prop} {l : List Val} : Ev (srcV (.tup l) S) Q = Q (.stat l) S := rfl
theorem ev_srcS {S : Store} {Q : Src → Store → Prop} {x : Str} : Ev (srcV (.str x) S) Q = Q (.stat (signs x)) S := rfl
theorem ev_enumT {S : Store} {Q : Src → Store → Prop} {l : List Val} : Ev (enumV (.tup l) S) Q = Q (.enumS l) S := rfl
theorem at_dyn {S : Store} {i k : Nat} {l : List Val} (h : S[i]? = some (.lst l)) : (Src.dyn i).at S k = some (l[k]?.map id) := by
  unfold Src.at
  dsimp only
  rw [h]
  simp
theorem len_dyn {S : Store} {i : Nat} {l : List Val} (h : S[i]? = some (.lst l)) : (Src.dyn i).len S = l.length := by
  unfold Src.len
  dsimp only
  rw [h]
theorem ev_lc {xs : List Val} {put : Store → Val → Option Env} {keep : Env → M Bool} {elt : Env → M Val} {src : Src} {S : Store} {Q : List Val → Store → Prop} (pair : Nat → Val → Val) (J : Nat → List Val → Store → Prop) (hlen : src.len S = xs.length) (hsrc : ∀ k acc S, J k acc S → src.at S k = some (xs[k]?.map (pair k)))
    (step : ∀ k x acc S, xs[k]? = some x → acc.length ≤ k → J k acc S → ∃ env1, put S (pair k x) = some env1 ∧ Ev (keep env1 S) fun b S1 => if b = true then Ev (elt env1 S1) fun v S2 => J (k + 1) (acc ++ [v]) S2 else J (k + 1) acc S1) (hz : xs.length ≤ sizeMax)
    (h0 : J 0 [] S) (hQ : ∀ l S', J xs.length l S' → l.length ≤ xs.length → Q l S') : Ev (noExc (fun S1 => compLoop src put keep elt (src.len S1) 0 [] S1) S) Q := by
  refine Eq.mpr (ev_noExc (m := fun S1 => compLoop src put keep elt (src.len S1) 0 [] S1)) ?_
  show Ev (compLoop src put keep elt (src.len S) 0 [] S) Q
  rw [hlen]
  exact (ev_comp pair J hsrc step hz xs.length 0 [] S (by omega) (by simp) h0).imp fun l S' h => hQ l S' h.1 h.2
theorem ev_dc {xs : List Val} {put : Store → Val → Option Env} {keep : Env → M Bool} {key elt : Env → M Val} {src : Src} {S : Store} {Q : List (DKey × Val) → Store → Prop} (pair : Nat → Val → Val) (J : Nat → List (DKey × Val) → Store → Prop) (hlen : src.len S = xs.length) (hsrc : ∀ k acc S, J k acc S → src.at S k = some (xs[k]?.map (pair k)))
    (step : ∀ k x acc S, xs[k]? = some x → J k acc S → ∃ env1, put S (pair k x) = some env1 ∧ Ev (keep env1 S) fun b S1 => if b = true then Ev (key env1 S1) fun y S2 => Ev (elt env1 S2) fun v S3 => ∃ q, keyOf y = some q ∧ acc.length < sizeMax ∧ J (k + 1) (putV acc q v) S3 else J (k + 1) acc S1)
    (h0 : J 0 [] S) (hQ : ∀ l S', J xs.length l S' → Q l S') : Ev (noExc (fun S1 => dcompLoop src put keep key elt (src.len S1) 0 [] S1) S) Q := by
  refine Eq.mpr (ev_noExc (m := fun S1 => dcompLoop src put keep key elt (src.len S1) 0 [] S1)) ?_
  show Ev (dcompLoop src put keep key elt (src.len S) 0 [] S) Q
  rw [hlen]
  exact (ev_dcomp pair J hsrc step xs.length 0 [] S (by omega) h0).imp fun l S' h => hQ l S' h
/-- a for, its length -/
theorem out_loop {xs : List Val} {put : Store → Val → Env → Option Env} {body : Env → Store → RS} {I : Env → Store → Prop} {R : Val → Store → Prop} {src : Src} {env : Env} {S : Store} (pair : Nat → Val → Val) (J : Nat → Env → Store → Prop) (hlen : src.len S = xs.length) (hsrc : ∀ k env S, J k env S → src.at S k = some (xs[k]?.map (pair k)))
    (step : ∀ k x env S, xs[k]? = some x → J k env S → ∃ env1, put S (pair k x) env = some env1 ∧ Out (body env1 S) (J (k + 1)) R) (h0 : J 0 env S) (hI : ∀ env S, J xs.length env S → I env S) : Out (forLoop src put body (src.len S) 0 env S) I R := by
  rw [hlen]
  exact (out_for pair J hsrc step xs.length 0 env S (by omega) h0).imp hI fun _ _ h => h
theorem ev_lcNe {S : Store} {Q : Val → Store → Prop} {i j : Nat} {xs : List Val} (h : S[i]? = some (.lst xs)) (hj : S[j]? = some (.lst [])) (hs : sims xs = true) (hd : vdeps xs ≤ 59) : Ev (cmpV .ne (.ref i) (.ref j) S) Q = Q (.bl (!xs.isEmpty)) S := ev_ne (eq_nil h hj hs hd)
end Pd

namespace K16
open PySem L2 Pd
/-! ### the text, in the small language -/
def top (i : Nat) : Stmt := PySem.Challenge.pw_pointhalls_k16_what_hangs_on_what.main.body.getD i (.Pass ⟨0, 0, 0, 0⟩)
/-- names_in -/
def f0 : FnD := ⟨"names_in", ["step", "word", "own", "others", "one"], 1,
  (.cons (.star (.cons (.name 1) (.cons (.name 2) (.cons (.name 3) .nil))) 2 (.var 0))
    (.cons (.ret (.bi .tuple (.cons (.comp (.var 4) [("one", 4)] (.name 4) (.val (.var 3)) (.some (.isin (.var 4) [.str]))) .nil)))
    .nil))⟩
abbrev s0 : Stmt := top 1
/-- hanging -/
def f1 : FnD := ⟨"hanging", ["sketch", "name", "found", "names", "number", "step", "one"], 2,
  (.cons (.set 2 (.lst .nil))
    (.cons (.set 3 (.dsp (.cons (.var 1) (.lit (.bl true)) .nil)))
    (.cons (.for_ (.tup (.cons (.name 4) (.cons (.name 5) .nil))) (.enum (.var 0))
    (.cons (.ife (.bi .any (.cons (.comp (.cmp .isIn (.var 6) (.var 3)) [("one", 6)] (.name 6) (.val (.call 0 (.cons (.var 5) .nil))) .none) .nil))
    (.cons (.ex (.bm .append (.var 2) (.cons (.var 4) .nil)))
    (.cons (.idx (.var 3) (.idx (.var 5) (.lit (.int 1))) (.lit (.bl true)))
    .nil))
    .nil)
    .nil))
    (.cons (.ret (.bi .tuple (.cons (.var 2) .nil)))
    .nil))))⟩
abbrev s1 : Stmt := top 2
/-- needed -/
def f2 : FnD := ⟨"needed", ["sketch", "names", "wanted", "found", "number", "name", "word", "own", "others", "one"], 2,
  (.cons (.set 2 (.dcomp (.var 5) (.lit (.bl true)) [("name", 5)] (.name 5) (.val (.var 1)) .none))
    (.cons (.set 3 (.lst .nil))
    (.cons (.for_ (.name 4) (.range3 (.bin .sub (.bi .len (.cons (.var 0) .nil)) (.lit (.int 1))) (.neg (.lit (.int 1))) (.neg (.lit (.int 1))))
    (.cons (.star (.cons (.name 6) (.cons (.name 7) (.cons (.name 8) .nil))) 2 (.idx (.var 0) (.var 4)))
    (.cons (.ife (.cmp .isIn (.var 7) (.var 2))
    (.cons (.ex (.bm .append (.var 3) (.cons (.var 4) .nil)))
    (.cons (.ex (.bm .update (.var 2) (.cons (.dcomp (.var 9) (.lit (.bl true)) [("one", 9)] (.name 9) (.val (.call 0 (.cons (.idx (.var 0) (.var 4)) .nil))) .none) .nil)))
    .nil))
    .nil)
    .nil)))
    (.cons (.ret (.bi .tuple (.cons (.rev (.var 3)) .nil)))
    .nil))))⟩
abbrev s2 : Stmt := top 3
/-- _law_deck -/
def f3 : FnD := ⟨"_law_deck", ["script", "cells", "seed", "cell"], 1,
  (.cons (.set 1 (.bi .list (.cons (.slc (.var 0) .none (.some (.lit (.int 63)))) .nil)))
    (.cons (.set 2 (.lit (.int 69621)))
    (.cons (.for_ (.name 3) (.val (.var 1))
    (.cons (.set 2 (.bin .mod (.bin .add (.bin .add (.bin .mul (.var 2) (.lit (.int 39373))) (.bin .mod (.var 3) (.lit (.int 2147483587)))) (.lit (.int 11))) (.lit (.int 2147483629))))
    .nil))
    (.cons (.ret (.lst (.cons (.rev (.var 1)) (.cons (.var 2) (.cons (.lit (.int 0)) .nil)))))
    .nil))))⟩
abbrev s3 : Stmt := top 5
/-- _law_draw -/
def f4 : FnD := ⟨"_law_draw", ["deck", "most", "cell", "number"], 2,
  (.cons (.idx (.var 0) (.lit (.int 2)) (.bin .add (.idx (.var 0) (.lit (.int 2))) (.lit (.int 1))))
    (.cons (.set 2 (.idx (.var 0) (.lit (.int 1))))
    (.cons (.ife (.cmp .ne (.idx (.var 0) (.lit (.int 0))) (.lst .nil))
    (.cons (.set 2 (.bm .pop (.idx (.var 0) (.lit (.int 0))) .nil))
    (.cons (.ife (.cmp .ge (.var 2) (.bin .pow (.lit (.int 10)) (.lit (.int 18))))
    (.cons (.ex (.bm .append (.idx (.var 0) (.lit (.int 0))) (.cons (.bin .fdiv (.var 2) (.var 1)) .nil)))
    (.cons (.ret (.bin .mod (.var 2) (.var 1)))
    .nil))
    .nil)
    .nil))
    .nil)
    (.cons (.set 3 (.bin .add (.bin .add (.bin .mod (.var 2) (.lit (.int 2147483629))) (.bin .mul (.bin .mul (.lit (.int 130363)) (.idx (.var 0) (.lit (.int 2)))) (.idx (.var 0) (.lit (.int 2))))) (.idx (.var 0) (.lit (.int 1)))))
    (.cons (.set 3 (.bin .mod (.bin .add (.bin .mul (.var 3) (.lit (.int 48271))) (.bin .mul (.lit (.int 40692)) (.idx (.var 0) (.lit (.int 2))))) (.lit (.int 2147483563))))
    (.cons (.set 3 (.bin .mod (.bin .add (.bin .mul (.var 3) (.var 3)) (.lit (.int 31))) (.lit (.int 2147483587))))
    (.cons (.ret (.bin .mod (.bin .fdiv (.bin .mod (.bin .mul (.var 3) (.lit (.int 16807))) (.lit (.int 2147483647))) (.lit (.int 64))) (.var 1)))
    .nil)))))))⟩
abbrev s4 : Stmt := top 6
/-- _law_pick -/
def f5 : FnD := ⟨"_law_pick", ["deck", "some"], 2,
  (.cons (.ret (.idx (.var 1) (.call 4 (.cons (.var 0) (.cons (.bi .len (.cons (.var 1) .nil)) .nil)))))
    .nil)⟩
abbrev s5 : Stmt := top 7
/-- _law_names -/
def f6 : FnD := ⟨"_law_names", ["deck", "letters", "way", "at", "word", "found", "k", "more", "some", "letter", "name"], 1,
  (.cons (.set 1 (.lit (.str "abcdefghijklmnopqrstuvwxyz")))
    (.cons (.set 2 (.call 4 (.cons (.var 0) (.cons (.lit (.int 4)) .nil))))
    (.cons (.set 3 (.call 4 (.cons (.var 0) (.cons (.lit (.int 8)) .nil))))
    (.cons (.set 4 (.bm .join (.lit (.str "")) (.cons (.comp (.idx (.var 1) (.call 4 (.cons (.var 0) (.cons (.lit (.int 26)) .nil)))) [("k", 6)] (.name 6) (.range1 (.lit (.int 8))) .none) .nil)))
    (.cons (.ife (.cmp .eq (.var 2) (.lit (.int 0)))
    (.cons (.ret (.comp (.idx (.var 1) (.bin .mod (.bin .add (.var 3) (.bin .mul (.lit (.int 5)) (.var 6))) (.lit (.int 26)))) [("k", 6)] (.name 6) (.range1 (.lit (.int 16))) .none))
    .nil)
    .nil)
    (.cons (.ife (.cmp .eq (.var 2) (.lit (.int 1)))
    (.cons (.set 8 (.lst (.cons (.lit (.str "line")) (.cons (.lit (.str "free")) (.cons (.lit (.str "at")) (.cons (.lit (.str "row")) (.cons (.lit (.str "on")) (.cons (.lit (.str "circle")) (.cons (.lit (.str "meet")) (.cons (.lit (.str "same")) (.cons (.lit (.str "holds")) (.cons (.lit (.str "a")) (.cons (.lit (.str "none")) (.cons (.lit (.str "ring")) .nil))))))))))))))
    (.cons (.ret (.bin .add (.bin .add (.slc (.var 8) (.some (.var 3)) .none) (.slc (.var 8) .none (.some (.var 3)))) (.lst (.cons (.lit (.str "foot")) (.cons (.lit (.str "p")) (.cons (.lit (.str "turn")) (.cons (.lit (.str "cross")) .nil)))))))
    .nil))
    .nil)
    (.cons (.set 5 (.lst .nil))
    (.cons (.for_ (.name 6) (.range1 (.lit (.int 16)))
    (.cons (.ife (.cmp .eq (.var 2) (.lit (.int 2)))
    (.cons (.ex (.bm .append (.var 5) (.cons (.idx (.lst (.cons (.slc (.var 4) .none (.some (.bin .add (.lit (.int 1)) (.bin .mod (.var 6) (.lit (.int 8)))))) (.cons (.bin .add (.lit (.str "z")) (.slc (.var 4) .none (.some (.bin .mod (.var 6) (.lit (.int 8)))))) .nil))) (.bin .fdiv (.var 6) (.lit (.int 8)))) .nil)))
    .nil)
    (.cons (.set 9 (.idx (.var 1) (.bin .mod (.bin .add (.bm .sindex (.var 1) (.cons (.idx (.var 4) (.var 3)) .nil)) (.var 6)) (.lit (.int 26)))))
    (.cons (.ex (.bm .append (.var 5) (.cons (.bin .add (.bin .add (.slc (.var 4) .none (.some (.var 3))) (.var 9)) (.slc (.var 4) (.some (.bin .add (.var 3) (.lit (.int 1)))) .none)) .nil)))
    .nil)))
    .nil))
    (.cons (.set 5 (.comp (.var 10) [("k", 6), ("name", 10)] (.tup (.cons (.name 6) (.cons (.name 10) .nil))) (.enum (.var 5)) (.some (.cmp .notIn (.var 10) (.slc (.var 5) .none (.some (.var 6)))))))
    (.cons (.set 7 (.lst (.cons (.lit (.str "qa")) (.cons (.lit (.str "qb")) (.cons (.lit (.str "qc")) (.cons (.lit (.str "qd")) (.cons (.lit (.str "qe")) (.cons (.lit (.str "qf")) (.cons (.lit (.str "qg")) (.cons (.lit (.str "qh")) (.cons (.lit (.str "qi")) (.cons (.lit (.str "qj")) (.cons (.lit (.str "qk")) (.cons (.lit (.str "ql")) (.cons (.lit (.str "qm")) (.cons (.lit (.str "qn")) (.cons (.lit (.str "qo")) (.cons (.lit (.str "qp")) .nil))))))))))))))))))
    (.cons (.ret (.slc (.bin .add (.var 5) (.comp (.var 10) [("name", 10)] (.name 10) (.val (.var 7)) (.some (.cmp .notIn (.var 10) (.var 5))))) .none (.some (.lit (.int 16)))))
    .nil)))))))))))⟩
abbrev s6 : Stmt := top 8
/-- _law_forms -/
def f7 : FnD := ⟨"_law_forms", ["found"], 0,
  (.cons (.set 0 (.dsp (.cons (.lit (.str "free")) (.lit (.str "")) (.cons (.lit (.str "on")) (.lit (.str "L")) (.cons (.lit (.str "round")) (.lit (.str "C")) (.cons (.lit (.str "meet")) (.lit (.str "LL")) (.cons (.lit (.str "middle")) (.lit (.str "PP")) (.cons (.lit (.str "foot")) (.lit (.str "PL")) (.cons (.lit (.str "mirror")) (.lit (.str "PL")) .nil)))))))))
    (.cons (.ex (.bm .update (.var 0) (.cons (.dsp (.cons (.lit (.str "turn")) (.lit (.str "PPn")) (.cons (.lit (.str "other")) (.lit (.str "LCP")) (.cons (.lit (.str "cross")) (.lit (.str "LCk")) (.cons (.lit (.str "line")) (.lit (.str "PP")) (.cons (.lit (.str "along")) (.lit (.str "PL")) .nil)))))) .nil)))
    (.cons (.ex (.bm .update (.var 0) (.cons (.dsp (.cons (.lit (.str "upright")) (.lit (.str "PL")) (.cons (.lit (.str "circle")) (.lit (.str "PP")) .nil))) .nil)))
    (.cons (.ret (.var 0))
    .nil))))⟩
abbrev s7 : Stmt := top 9
/-- _law_sort -/
def f8 : FnD := ⟨"_law_sort", ["word"], 1,
  (.cons (.ife (.cmp .eq (.var 0) (.lit (.str "circle")))
    (.cons (.ret (.lit (.str "C")))
    .nil)
    .nil)
    (.cons (.ret (.ife (.cmp .isIn (.var 0) (.tup (.cons (.lit (.str "line")) (.cons (.lit (.str "along")) (.cons (.lit (.str "upright")) .nil))))) (.lit (.str "L")) (.lit (.str "P"))))
    .nil))⟩
abbrev s8 : Stmt := top 10
/-- _law_others -/
def f9 : FnD := ⟨"_law_others", ["steps", "found", "circle", "line", "through"], 1,
  (.cons (.set 1 (.lst .nil))
    (.cons (.for_ (.name 2) (.val (.var 0))
    (.cons (.ife (.cmp .eq (.idx (.var 2) (.lit (.int 0))) (.lit (.str "circle")))
    (.cons (.for_ (.name 3) (.val (.var 0))
    (.cons (.set 4 (.bm .get2 (.dsp (.cons (.lit (.str "line")) (.slc (.var 3) (.some (.lit (.int 2))) .none) (.cons (.lit (.str "along")) (.slc (.var 3) (.some (.lit (.int 2))) (.some (.lit (.int 3)))) (.cons (.lit (.str "upright")) (.slc (.var 3) (.some (.lit (.int 2))) (.some (.lit (.int 3)))) .nil)))) (.cons (.idx (.var 3) (.lit (.int 0))) (.cons (.tup .nil) .nil))))
    (.cons (.ife (.cmp .isIn (.idx (.var 2) (.lit (.int 3))) (.var 4))
    (.cons (.ex (.bm .append (.var 1) (.cons (.tup (.cons (.idx (.var 3) (.lit (.int 1))) (.cons (.idx (.var 2) (.lit (.int 1))) (.cons (.idx (.var 2) (.lit (.int 3))) .nil)))) .nil)))
    .nil)
    .nil)
    .nil)))
    .nil)
    .nil)
    .nil))
    (.cons (.ret (.var 1))
    .nil)))⟩
abbrev s9 : Stmt := top 11
/-- _law_next -/
def f10 : FnD := ⟨"_law_next", ["deck", "steps", "name", "words", "word", "spare", "left", "step", "found", "sign", "some"], 4,
  (.cons (.set 4 (.call 5 (.cons (.var 0) (.cons (.var 3) .nil))))
    (.cons (.set 5 (.call 4 (.cons (.var 0) (.cons (.lit (.int 6)) .nil))))
    (.cons (.set 6 (.dsp (.cons (.lit (.str "P")) (.lst .nil) (.cons (.lit (.str "L")) (.lst .nil) (.cons (.lit (.str "C")) (.lst .nil) .nil)))))
    (.cons (.for_ (.name 7) (.val (.var 1))
    (.cons (.ex (.bm .append (.idx (.var 6) (.call 8 (.cons (.idx (.var 7) (.lit (.int 0))) .nil))) (.cons (.idx (.var 7) (.lit (.int 1))) .nil)))
    .nil))
    (.cons (.ife (.cmp .eq (.var 4) (.lit (.str "other")))
    (.cons (.set 10 (.call 9 (.cons (.var 1) .nil)))
    (.cons (.ret (.ife (.cmp .ne (.var 10) (.lst .nil)) (.bin .add (.tup (.cons (.lit (.str "other")) (.cons (.var 2) .nil))) (.idx (.var 10) (.bin .mod (.var 5) (.bi .len (.cons (.var 10) .nil))))) (.tup (.cons (.lit (.str "free")) (.cons (.var 2) .nil)))))
    .nil))
    .nil)
    (.cons (.set 8 (.tup (.cons (.var 4) (.cons (.var 2) .nil))))
    (.cons (.for_ (.name 9) (.val (.idx (.call 7 .nil) (.var 4)))
    (.cons (.ife (.cmp .eq (.var 9) (.lit (.str "n")))
    (.cons (.set 8 (.bin .add (.var 8) (.tup (.cons (.bin .add (.lit (.int 1)) (.bin .mod (.var 5) (.lit (.int 3)))) .nil))))
    .nil)
    (.cons (.ife (.cmp .eq (.var 9) (.lit (.str "k")))
    (.cons (.set 8 (.bin .add (.var 8) (.tup (.cons (.bin .mod (.var 5) (.lit (.int 2))) .nil))))
    .nil)
    (.cons (.ife (.cmp .eq (.idx (.var 6) (.var 9)) (.lst .nil))
    (.cons (.ret (.tup (.cons (.lit (.str "free")) (.cons (.var 2) .nil))))
    .nil)
    (.cons (.set 8 (.bin .add (.var 8) (.tup (.cons (.bm .popAt (.idx (.var 6) (.var 9)) (.cons (.call 4 (.cons (.var 0) (.cons (.bi .len (.cons (.idx (.var 6) (.var 9)) .nil)) .nil))) .nil)) .nil))))
    .nil))
    .nil))
    .nil))
    .nil))
    (.cons (.ret (.var 8))
    .nil))))))))⟩
abbrev s10 : Stmt := top 12
/-- _law_words -/
def f11 : FnD := ⟨"_law_words", ["with_cross", "found"], 1,
  (.cons (.set 1 (.lst (.cons (.lit (.str "free")) (.cons (.lit (.str "on")) (.cons (.lit (.str "round")) (.cons (.lit (.str "meet")) (.cons (.lit (.str "middle")) (.cons (.lit (.str "foot")) (.cons (.lit (.str "mirror")) (.cons (.lit (.str "turn")) (.cons (.lit (.str "other")) (.cons (.lit (.str "line")) (.cons (.lit (.str "line")) (.cons (.lit (.str "along")) .nil))))))))))))))
    (.cons (.ret (.bin .add (.bin .add (.var 1) (.lst (.cons (.lit (.str "upright")) (.cons (.lit (.str "circle")) (.cons (.lit (.str "circle")) (.cons (.lit (.str "meet")) .nil)))))) (.bin .mul (.lst (.cons (.lit (.str "cross")) .nil)) (.bi .int (.cons (.var 0) .nil)))))
    .nil))⟩
abbrev s11 : Stmt := top 13
/-- _law_sketch -/
def f12 : FnD := ⟨"_law_sketch", ["deck", "names", "many", "words", "steps", "k"], 4,
  (.cons (.set 4 (.lst (.cons (.tup (.cons (.lit (.str "free")) (.cons (.idx (.var 1) (.lit (.int 0))) .nil))) (.cons (.tup (.cons (.lit (.str "free")) (.cons (.idx (.var 1) (.lit (.int 1))) .nil))) (.cons (.tup (.cons (.lit (.str "line")) (.cons (.idx (.var 1) (.lit (.int 2))) (.cons (.idx (.var 1) (.lit (.int 0))) (.cons (.idx (.var 1) (.lit (.int 1))) .nil))))) .nil)))))
    (.cons (.ife (.cmp .eq (.call 4 (.cons (.var 0) (.cons (.lit (.int 2)) .nil))) (.lit (.int 1)))
    (.cons (.idx (.var 4) (.lit (.int 2)) (.tup (.cons (.lit (.str "circle")) (.cons (.idx (.var 1) (.lit (.int 2))) (.cons (.idx (.var 1) (.lit (.int 1))) (.cons (.idx (.var 1) (.lit (.int 0))) .nil))))))
    .nil)
    .nil)
    (.cons (.for_ (.name 5) (.range2 (.lit (.int 3)) (.bi .max2 (.cons (.lit (.int 3)) (.cons (.var 2) .nil))))
    (.cons (.ex (.bm .append (.var 4) (.cons (.call 10 (.cons (.var 0) (.cons (.var 4) (.cons (.idx (.var 1) (.var 5)) (.cons (.var 3) .nil))))) .nil)))
    .nil))
    (.cons (.ret (.bi .tuple (.cons (.slc (.var 4) .none (.some (.var 2))) .nil)))
    .nil))))⟩
abbrev s12 : Stmt := top 14
/-- _law_hanging -/
def f13 : FnD := ⟨"_law_hanging", ["steps", "name", "names", "found", "k", "step", "thing"], 2,
  (.cons (.set 2 (.lst (.cons (.var 1) .nil)))
    (.cons (.set 3 (.lst .nil))
    (.cons (.for_ (.tup (.cons (.name 4) (.cons (.name 5) .nil))) (.enum (.var 0))
    (.cons (.ife (.cmp .ne (.comp (.var 6) [("thing", 6)] (.name 6) (.val (.slc (.var 5) (.some (.lit (.int 2))) .none)) (.some (.and (.isin (.var 6) [.str]) (.cmp .isIn (.var 6) (.var 2))))) (.lst .nil))
    (.cons (.ex (.bm .append (.var 2) (.cons (.idx (.var 5) (.lit (.int 1))) .nil)))
    (.cons (.ex (.bm .append (.var 3) (.cons (.var 4) .nil)))
    .nil))
    .nil)
    .nil))
    (.cons (.ret (.var 3))
    .nil))))⟩
abbrev s13 : Stmt := top 15
/-- _law_needed -/
def f14 : FnD := ⟨"_law_needed", ["steps", "names", "wanted", "step", "k", "thing"], 2,
  (.cons (.set 2 (.bi .list (.cons (.var 1) .nil)))
    (.cons (.for_ (.name 3) (.val (.rev (.var 0)))
    (.cons (.ife (.cmp .isIn (.idx (.var 3) (.lit (.int 1))) (.var 2))
    (.cons (.set 2 (.bin .add (.var 2) (.comp (.var 5) [("thing", 5)] (.name 5) (.val (.slc (.var 3) (.some (.lit (.int 2))) .none)) (.some (.isin (.var 5) [.str])))))
    .nil)
    .nil)
    .nil))
    (.cons (.ret (.comp (.var 4) [("k", 4), ("step", 3)] (.tup (.cons (.name 4) (.cons (.name 3) .nil))) (.enum (.var 0)) (.some (.cmp .isIn (.idx (.var 3) (.lit (.int 1))) (.var 2)))))
    .nil)))⟩
abbrev s14 : Stmt := top 16
/-- _law_right -/
def f15 : FnD := ⟨"_law_right", ["deck", "steps", "kept", "names", "name", "lap", "due", "some", "step", "k"], 2,
  (.cons (.set 2 (.bi .repr (.cons (.var 1) .nil)))
    (.cons (.set 3 (.comp (.idx (.var 8) (.lit (.int 1))) [("step", 8)] (.name 8) (.val (.var 1)) .none))
    (.cons (.for_ (.name 4) (.val (.var 3))
    (.cons (.set 6 (.bi .repr (.cons (.bi .tuple (.cons (.call 13 (.cons (.var 1) (.cons (.var 4) .nil))) .nil)) .nil)))
    (.cons (.ife (.or (.cmp .ne (.bi .repr (.cons (.call 1 (.cons (.var 1) (.cons (.var 4) .nil))) .nil)) (.var 6)) (.cmp .ne (.bi .repr (.cons (.call 1 (.cons (.var 1) (.cons (.var 4) .nil))) .nil)) (.var 6)))
    (.cons (.ret (.lit (.bl false)))
    .nil)
    .nil)
    (.cons (.set 6 (.bi .repr (.cons (.bi .tuple (.cons (.call 14 (.cons (.var 1) (.cons (.lst (.cons (.var 4) .nil)) .nil))) .nil)) .nil)))
    (.cons (.ife (.cmp .ne (.bi .repr (.cons (.call 2 (.cons (.var 1) (.cons (.tup (.cons (.var 4) .nil)) .nil))) .nil)) (.var 6))
    (.cons (.ret (.lit (.bl false)))
    .nil)
    .nil)
    .nil)))))
    (.cons (.for_ (.name 5) (.range1 (.lit (.int 6)))
    (.cons (.set 7 (.bi .tuple (.cons (.comp (.call 5 (.cons (.var 0) (.cons (.var 3) .nil))) [("k", 9)] (.name 9) (.range1 (.bin .add (.lit (.int 1)) (.call 4 (.cons (.var 0) (.cons (.lit (.int 3)) .nil))))) .none) .nil)))
    (.cons (.ife (.cmp .ne (.bi .repr (.cons (.call 2 (.cons (.var 1) (.cons (.var 7) .nil))) .nil)) (.bi .repr (.cons (.bi .tuple (.cons (.call 14 (.cons (.var 1) (.cons (.var 7) .nil))) .nil)) .nil)))
    (.cons (.ret (.lit (.bl false)))
    .nil)
    .nil)
    .nil)))
    (.cons (.ret (.and (.cmp .eq (.bi .repr (.cons (.var 1) .nil)) (.var 2)) (.cmp .eq (.call 2 (.cons (.var 1) (.cons (.tup .nil) .nil))) (.tup .nil))))
    .nil)))))⟩
abbrev s15 : Stmt := top 17
/-- _law_chain -/
def f16 : FnD := ⟨"_law_chain", ["names", "steps", "k"], 1,
  (.cons (.set 1 (.lst (.cons (.tup (.cons (.lit (.str "free")) (.cons (.idx (.var 0) (.lit (.int 0))) .nil))) (.cons (.tup (.cons (.lit (.str "free")) (.cons (.idx (.var 0) (.lit (.int 1))) .nil))) (.cons (.tup (.cons (.lit (.str "middle")) (.cons (.idx (.var 0) (.lit (.int 2))) (.cons (.idx (.var 0) (.lit (.int 0))) (.cons (.idx (.var 0) (.lit (.int 1))) .nil))))) .nil)))))
    (.cons (.for_ (.name 2) (.range2 (.lit (.int 3)) (.lit (.int 14)))
    (.cons (.ex (.bm .append (.var 1) (.cons (.tup (.cons (.lit (.str "middle")) (.cons (.idx (.var 0) (.var 2)) (.cons (.idx (.var 0) (.bin .sub (.var 2) (.lit (.int 1)))) (.cons (.idx (.var 0) (.bin .mod (.var 2) (.lit (.int 2)))) .nil))))) .nil)))
    .nil))
    (.cons (.ret (.bi .tuple (.cons (.var 1) .nil)))
    .nil)))⟩
abbrev s16 : Stmt := top 18
/-- law -/
def f17 : FnD := ⟨"law", ["script", "deck", "lap", "names", "steps"], 1,
  (.cons (.set 1 (.call 3 (.cons (.var 0) .nil)))
    (.cons (.for_ (.name 2) (.range1 (.lit (.int 6)))
    (.cons (.set 3 (.call 6 (.cons (.var 1) .nil)))
    (.cons (.set 4 (.call 12 (.cons (.var 1) (.cons (.var 3) (.cons (.idx (.lst (.cons (.lit (.int 14)) (.cons (.bin .add (.lit (.int 2)) (.call 4 (.cons (.var 1) (.cons (.lit (.int 12)) .nil)))) .nil))) (.bi .int (.cons (.cmp .gt (.var 2) (.lit (.int 0))) .nil))) (.cons (.call 11 (.cons (.lit (.bl true)) .nil)) .nil))))))
    (.cons (.ife (.not (.call 15 (.cons (.var 1) (.cons (.var 4) .nil))))
    (.cons (.ret (.lit (.bl false)))
    .nil)
    .nil)
    .nil))))
    (.cons (.ret (.and (.call 15 (.cons (.var 1) (.cons (.call 16 (.cons (.var 3) .nil)) .nil))) (.call 15 (.cons (.var 1) (.cons (.slc (.call 16 (.cons (.var 3) .nil)) .none (.some (.lit (.int 2)))) .nil)))))
    .nil)))⟩
abbrev s17 : Stmt := top 19
def T : Tab := ⟨[f0, f1, f2, f3, f4, f5, f6, f7, f8, f9, f10, f11, f12, f13, f14, f15, f16, f17], [], ["any", "enumerate", "int", "isinstance", "len", "list", "max", "range", "repr", "str", "tuple"], fun _ => [], [.str]⟩
theorem c0 : chkSs T f0.N (defScope s0) f0.body (defBody s0) = true := by decide +kernel
theorem sc0 : FnScope f0.N (f0.N.take f0.np) (defScope s0) := ⟨rfl, rfl, rfl, by decide +kernel, rfl, by decide +kernel, by decide +kernel⟩
theorem b0 (kV doc pm : Value) (an : Option Addr) (cdv ct : Value) (us : List Value) (hl : us.length = 1) : bindArgs (PySem.W.fnOf "names_in" "names_in" (defArgs s0) (defBody s0) (defScope s0) .none kV doc pm an cdv ct) ⟨us, []⟩ = pure ((f0.N.take f0.np).zip us) :=
  match us, hl with | [_], _ => rfl
theorem c1 : chkSs T f1.N (defScope s1) f1.body (defBody s1) = true := by decide +kernel
theorem sc1 : FnScope f1.N (f1.N.take f1.np) (defScope s1) := ⟨rfl, rfl, rfl, by decide +kernel, rfl, by decide +kernel, by decide +kernel⟩
theorem b1 (kV doc pm : Value) (an : Option Addr) (cdv ct : Value) (us : List Value) (hl : us.length = 2) : bindArgs (PySem.W.fnOf "hanging" "hanging" (defArgs s1) (defBody s1) (defScope s1) .none kV doc pm an cdv ct) ⟨us, []⟩ = pure ((f1.N.take f1.np).zip us) :=
  match us, hl with | [_, _], _ => rfl
theorem c2 : chkSs T f2.N (defScope s2) f2.body (defBody s2) = true := by decide +kernel
theorem sc2 : FnScope f2.N (f2.N.take f2.np) (defScope s2) := ⟨rfl, rfl, rfl, by decide +kernel, rfl, by decide +kernel, by decide +kernel⟩
theorem b2 (kV doc pm : Value) (an : Option Addr) (cdv ct : Value) (us : List Value) (hl : us.length = 2) : bindArgs (PySem.W.fnOf "needed" "needed" (defArgs s2) (defBody s2) (defScope s2) .none kV doc pm an cdv ct) ⟨us, []⟩ = pure ((f2.N.take f2.np).zip us) :=
  match us, hl with | [_, _], _ => rfl
theorem c3 : chkSs T f3.N (defScope s3) f3.body (defBody s3) = true := by decide +kernel
theorem sc3 : FnScope f3.N (f3.N.take f3.np) (defScope s3) := ⟨rfl, rfl, rfl, by decide +kernel, rfl, by decide +kernel, by decide +kernel⟩
theorem b3 (kV doc pm : Value) (an : Option Addr) (cdv ct : Value) (us : List Value) (hl : us.length = 1) : bindArgs (PySem.W.fnOf "_law_deck" "_law_deck" (defArgs s3) (defBody s3) (defScope s3) .none kV doc pm an cdv ct) ⟨us, []⟩ = pure ((f3.N.take f3.np).zip us) :=
  match us, hl with | [_], _ => rfl
theorem c4 : chkSs T f4.N (defScope s4) f4.body (defBody s4) = true := by decide +kernel
theorem sc4 : FnScope f4.N (f4.N.take f4.np) (defScope s4) := ⟨rfl, rfl, rfl, by decide +kernel, rfl, by decide +kernel, by decide +kernel⟩
theorem b4 (kV doc pm : Value) (an : Option Addr) (cdv ct : Value) (us : List Value) (hl : us.length = 2) : bindArgs (PySem.W.fnOf "_law_draw" "_law_draw" (defArgs s4) (defBody s4) (defScope s4) .none kV doc pm an cdv ct) ⟨us, []⟩ = pure ((f4.N.take f4.np).zip us) :=
  match us, hl with | [_, _], _ => rfl
theorem c5 : chkSs T f5.N (defScope s5) f5.body (defBody s5) = true := by decide +kernel
theorem sc5 : FnScope f5.N (f5.N.take f5.np) (defScope s5) := ⟨rfl, rfl, rfl, by decide +kernel, rfl, by decide +kernel, by decide +kernel⟩
theorem b5 (kV doc pm : Value) (an : Option Addr) (cdv ct : Value) (us : List Value) (hl : us.length = 2) : bindArgs (PySem.W.fnOf "_law_pick" "_law_pick" (defArgs s5) (defBody s5) (defScope s5) .none kV doc pm an cdv ct) ⟨us, []⟩ = pure ((f5.N.take f5.np).zip us) :=
  match us, hl with | [_, _], _ => rfl
theorem c6 : chkSs T f6.N (defScope s6) f6.body (defBody s6) = true := by decide +kernel
theorem sc6 : FnScope f6.N (f6.N.take f6.np) (defScope s6) := ⟨rfl, rfl, rfl, by decide +kernel, rfl, by decide +kernel, by decide +kernel⟩
theorem b6 (kV doc pm : Value) (an : Option Addr) (cdv ct : Value) (us : List Value) (hl : us.length = 1) : bindArgs (PySem.W.fnOf "_law_names" "_law_names" (defArgs s6) (defBody s6) (defScope s6) .none kV doc pm an cdv ct) ⟨us, []⟩ = pure ((f6.N.take f6.np).zip us) :=
  match us, hl with | [_], _ => rfl
theorem c7 : chkSs T f7.N (defScope s7) f7.body (defBody s7) = true := by decide +kernel
theorem sc7 : FnScope f7.N (f7.N.take f7.np) (defScope s7) := ⟨rfl, rfl, rfl, by decide +kernel, rfl, by decide +kernel, by decide +kernel⟩
theorem b7 (kV doc pm : Value) (an : Option Addr) (cdv ct : Value) (us : List Value) (hl : us.length = 0) : bindArgs (PySem.W.fnOf "_law_forms" "_law_forms" (defArgs s7) (defBody s7) (defScope s7) .none kV doc pm an cdv ct) ⟨us, []⟩ = pure ((f7.N.take f7.np).zip us) :=
  match us, hl with | [], _ => rfl
theorem c8 : chkSs T f8.N (defScope s8) f8.body (defBody s8) = true := by decide +kernel
theorem sc8 : FnScope f8.N (f8.N.take f8.np) (defScope s8) := ⟨rfl, rfl, rfl, by decide +kernel, rfl, by decide +kernel, by decide +kernel⟩
theorem b8 (kV doc pm : Value) (an : Option Addr) (cdv ct : Value) (us : List Value) (hl : us.length = 1) : bindArgs (PySem.W.fnOf "_law_sort" "_law_sort" (defArgs s8) (defBody s8) (defScope s8) .none kV doc pm an cdv ct) ⟨us, []⟩ = pure ((f8.N.take f8.np).zip us) :=
  match us, hl with | [_], _ => rfl
theorem c9 : chkSs T f9.N (defScope s9) f9.body (defBody s9) = true := by decide +kernel
theorem sc9 : FnScope f9.N (f9.N.take f9.np) (defScope s9) := ⟨rfl, rfl, rfl, by decide +kernel, rfl, by decide +kernel, by decide +kernel⟩
theorem b9 (kV doc pm : Value) (an : Option Addr) (cdv ct : Value) (us : List Value) (hl : us.length = 1) : bindArgs (PySem.W.fnOf "_law_others" "_law_others" (defArgs s9) (defBody s9) (defScope s9) .none kV doc pm an cdv ct) ⟨us, []⟩ = pure ((f9.N.take f9.np).zip us) :=
  match us, hl with | [_], _ => rfl
theorem c10 : chkSs T f10.N (defScope s10) f10.body (defBody s10) = true := by decide +kernel
theorem sc10 : FnScope f10.N (f10.N.take f10.np) (defScope s10) := ⟨rfl, rfl, rfl, by decide +kernel, rfl, by decide +kernel, by decide +kernel⟩
theorem b10 (kV doc pm : Value) (an : Option Addr) (cdv ct : Value) (us : List Value) (hl : us.length = 4) : bindArgs (PySem.W.fnOf "_law_next" "_law_next" (defArgs s10) (defBody s10) (defScope s10) .none kV doc pm an cdv ct) ⟨us, []⟩ = pure ((f10.N.take f10.np).zip us) :=
  match us, hl with | [_, _, _, _], _ => rfl
theorem c11 : chkSs T f11.N (defScope s11) f11.body (defBody s11) = true := by decide +kernel
theorem sc11 : FnScope f11.N (f11.N.take f11.np) (defScope s11) := ⟨rfl, rfl, rfl, by decide +kernel, rfl, by decide +kernel, by decide +kernel⟩
theorem b11 (kV doc pm : Value) (an : Option Addr) (cdv ct : Value) (us : List Value) (hl : us.length = 1) : bindArgs (PySem.W.fnOf "_law_words" "_law_words" (defArgs s11) (defBody s11) (defScope s11) .none kV doc pm an cdv ct) ⟨us, []⟩ = pure ((f11.N.take f11.np).zip us) :=
  match us, hl with | [_], _ => rfl
theorem c12 : chkSs T f12.N (defScope s12) f12.body (defBody s12) = true := by decide +kernel
theorem sc12 : FnScope f12.N (f12.N.take f12.np) (defScope s12) := ⟨rfl, rfl, rfl, by decide +kernel, rfl, by decide +kernel, by decide +kernel⟩
theorem b12 (kV doc pm : Value) (an : Option Addr) (cdv ct : Value) (us : List Value) (hl : us.length = 4) : bindArgs (PySem.W.fnOf "_law_sketch" "_law_sketch" (defArgs s12) (defBody s12) (defScope s12) .none kV doc pm an cdv ct) ⟨us, []⟩ = pure ((f12.N.take f12.np).zip us) :=
  match us, hl with | [_, _, _, _], _ => rfl
theorem c13 : chkSs T f13.N (defScope s13) f13.body (defBody s13) = true := by decide +kernel
theorem sc13 : FnScope f13.N (f13.N.take f13.np) (defScope s13) := ⟨rfl, rfl, rfl, by decide +kernel, rfl, by decide +kernel, by decide +kernel⟩
theorem b13 (kV doc pm : Value) (an : Option Addr) (cdv ct : Value) (us : List Value) (hl : us.length = 2) : bindArgs (PySem.W.fnOf "_law_hanging" "_law_hanging" (defArgs s13) (defBody s13) (defScope s13) .none kV doc pm an cdv ct) ⟨us, []⟩ = pure ((f13.N.take f13.np).zip us) :=
  match us, hl with | [_, _], _ => rfl
theorem c14 : chkSs T f14.N (defScope s14) f14.body (defBody s14) = true := by decide +kernel
theorem sc14 : FnScope f14.N (f14.N.take f14.np) (defScope s14) := ⟨rfl, rfl, rfl, by decide +kernel, rfl, by decide +kernel, by decide +kernel⟩
theorem b14 (kV doc pm : Value) (an : Option Addr) (cdv ct : Value) (us : List Value) (hl : us.length = 2) : bindArgs (PySem.W.fnOf "_law_needed" "_law_needed" (defArgs s14) (defBody s14) (defScope s14) .none kV doc pm an cdv ct) ⟨us, []⟩ = pure ((f14.N.take f14.np).zip us) :=
  match us, hl with | [_, _], _ => rfl
theorem c15 : chkSs T f15.N (defScope s15) f15.body (defBody s15) = true := by decide +kernel
theorem sc15 : FnScope f15.N (f15.N.take f15.np) (defScope s15) := ⟨rfl, rfl, rfl, by decide +kernel, rfl, by decide +kernel, by decide +kernel⟩
theorem b15 (kV doc pm : Value) (an : Option Addr) (cdv ct : Value) (us : List Value) (hl : us.length = 2) : bindArgs (PySem.W.fnOf "_law_right" "_law_right" (defArgs s15) (defBody s15) (defScope s15) .none kV doc pm an cdv ct) ⟨us, []⟩ = pure ((f15.N.take f15.np).zip us) :=
  match us, hl with | [_, _], _ => rfl
theorem c16 : chkSs T f16.N (defScope s16) f16.body (defBody s16) = true := by decide +kernel
theorem sc16 : FnScope f16.N (f16.N.take f16.np) (defScope s16) := ⟨rfl, rfl, rfl, by decide +kernel, rfl, by decide +kernel, by decide +kernel⟩
theorem b16 (kV doc pm : Value) (an : Option Addr) (cdv ct : Value) (us : List Value) (hl : us.length = 1) : bindArgs (PySem.W.fnOf "_law_chain" "_law_chain" (defArgs s16) (defBody s16) (defScope s16) .none kV doc pm an cdv ct) ⟨us, []⟩ = pure ((f16.N.take f16.np).zip us) :=
  match us, hl with | [_], _ => rfl
theorem c17 : chkSs T f17.N (defScope s17) f17.body (defBody s17) = true := by decide +kernel
theorem sc17 : FnScope f17.N (f17.N.take f17.np) (defScope s17) := ⟨rfl, rfl, rfl, by decide +kernel, rfl, by decide +kernel, by decide +kernel⟩
theorem b17 (kV doc pm : Value) (an : Option Addr) (cdv ct : Value) (us : List Value) (hl : us.length = 1) : bindArgs (PySem.W.fnOf "law" "law" (defArgs s17) (defBody s17) (defScope s17) .none kV doc pm an cdv ct) ⟨us, []⟩ = pure ((f17.N.take f17.np).zip us) :=
  match us, hl with | [_], _ => rfl
theorem all_mk {P : Program} {w : World} {K : PySem.W.Frag} {h : Heap} {mg : Str → Option Value} {g0 g1 g2 g3 g4 g5 g6 g7 g8 g9 g10 g11 g12 g13 g14 g15 g16 g17 : Addr} {od0 an0 od1 an1 od2 an2 od3 an3 od4 an4 od5 an5 od6 an6 od7 an7 od8 an8 od9 an9 od10 an10 od11 an11 od12 an12 od13 an13 od14 an14 od15 an15 od16 an16 od17 an17 : Option Addr} {sl0 sl1 sl2 sl3 sl4 sl5 sl6 sl7 sl8 sl9 sl10 sl11 sl12 sl13 sl14 sl15 sl16 sl17 : Array (Option Value)} {oc0 kV0 dc0 pm0 cd0 ct0 oc1 kV1 dc1 pm1 cd1 ct1 oc2 kV2 dc2 pm2 cd2 ct2 oc3 kV3 dc3 pm3 cd3 ct3 oc4 kV4 dc4 pm4 cd4 ct4 oc5 kV5 dc5 pm5 cd5 ct5 oc6 kV6 dc6 pm6 cd6 ct6 oc7 kV7 dc7 pm7 cd7 ct7 oc8 kV8 dc8 pm8 cd8 ct8 oc9 kV9 dc9 pm9 cd9 ct9 oc10 kV10 dc10 pm10 cd10 ct10 oc11 kV11 dc11 pm11 cd11 ct11 oc12 kV12 dc12 pm12 cd12 ct12 oc13 kV13 dc13 pm13 cd13 ct13 oc14 kV14 dc14 pm14 cd14 ct14 oc15 kV15 dc15 pm15 cd15 ct15 oc16 kV16 dc16 pm16 cd16 ct16 oc17 kV17 dc17 pm17 cd17 ct17 : Value} (X : K.In h) (G : h.Ns mainGlobals mg)
    (a0 : PySem.W.nsIn K mainGlobals "names_in" = some (some (.ref g0))) (l0 : K.lookup g0 = some ⟨oc0, od0, .func (PySem.W.fnOf "names_in" "names_in" (defArgs s0) (defBody s0) (defScope s0) .none kV0 dc0 pm0 an0 cd0 ct0), sl0⟩) (m0 : PySem.W.codeIn K cd0 "names_in" = true) (k0 : PySem.W.keepIn K (.ref g0) = true)
    (a1 : PySem.W.nsIn K mainGlobals "hanging" = some (some (.ref g1))) (l1 : K.lookup g1 = some ⟨oc1, od1, .func (PySem.W.fnOf "hanging" "hanging" (defArgs s1) (defBody s1) (defScope s1) .none kV1 dc1 pm1 an1 cd1 ct1), sl1⟩) (m1 : PySem.W.codeIn K cd1 "hanging" = true) (k1 : PySem.W.keepIn K (.ref g1) = true)
    (a2 : PySem.W.nsIn K mainGlobals "needed" = some (some (.ref g2))) (l2 : K.lookup g2 = some ⟨oc2, od2, .func (PySem.W.fnOf "needed" "needed" (defArgs s2) (defBody s2) (defScope s2) .none kV2 dc2 pm2 an2 cd2 ct2), sl2⟩) (m2 : PySem.W.codeIn K cd2 "needed" = true) (k2 : PySem.W.keepIn K (.ref g2) = true)
    (a3 : PySem.W.nsIn K mainGlobals "_law_deck" = some (some (.ref g3))) (l3 : K.lookup g3 = some ⟨oc3, od3, .func (PySem.W.fnOf "_law_deck" "_law_deck" (defArgs s3) (defBody s3) (defScope s3) .none kV3 dc3 pm3 an3 cd3 ct3), sl3⟩) (m3 : PySem.W.codeIn K cd3 "_law_deck" = true) (k3 : PySem.W.keepIn K (.ref g3) = true)
    (a4 : PySem.W.nsIn K mainGlobals "_law_draw" = some (some (.ref g4))) (l4 : K.lookup g4 = some ⟨oc4, od4, .func (PySem.W.fnOf "_law_draw" "_law_draw" (defArgs s4) (defBody s4) (defScope s4) .none kV4 dc4 pm4 an4 cd4 ct4), sl4⟩) (m4 : PySem.W.codeIn K cd4 "_law_draw" = true) (k4 : PySem.W.keepIn K (.ref g4) = true)
    (a5 : PySem.W.nsIn K mainGlobals "_law_pick" = some (some (.ref g5))) (l5 : K.lookup g5 = some ⟨oc5, od5, .func (PySem.W.fnOf "_law_pick" "_law_pick" (defArgs s5) (defBody s5) (defScope s5) .none kV5 dc5 pm5 an5 cd5 ct5), sl5⟩) (m5 : PySem.W.codeIn K cd5 "_law_pick" = true) (k5 : PySem.W.keepIn K (.ref g5) = true)
    (a6 : PySem.W.nsIn K mainGlobals "_law_names" = some (some (.ref g6))) (l6 : K.lookup g6 = some ⟨oc6, od6, .func (PySem.W.fnOf "_law_names" "_law_names" (defArgs s6) (defBody s6) (defScope s6) .none kV6 dc6 pm6 an6 cd6 ct6), sl6⟩) (m6 : PySem.W.codeIn K cd6 "_law_names" = true) (k6 : PySem.W.keepIn K (.ref g6) = true)
    (a7 : PySem.W.nsIn K mainGlobals "_law_forms" = some (some (.ref g7))) (l7 : K.lookup g7 = some ⟨oc7, od7, .func (PySem.W.fnOf "_law_forms" "_law_forms" (defArgs s7) (defBody s7) (defScope s7) .none kV7 dc7 pm7 an7 cd7 ct7), sl7⟩) (m7 : PySem.W.codeIn K cd7 "_law_forms" = true) (k7 : PySem.W.keepIn K (.ref g7) = true)
    (a8 : PySem.W.nsIn K mainGlobals "_law_sort" = some (some (.ref g8))) (l8 : K.lookup g8 = some ⟨oc8, od8, .func (PySem.W.fnOf "_law_sort" "_law_sort" (defArgs s8) (defBody s8) (defScope s8) .none kV8 dc8 pm8 an8 cd8 ct8), sl8⟩) (m8 : PySem.W.codeIn K cd8 "_law_sort" = true) (k8 : PySem.W.keepIn K (.ref g8) = true)
    (a9 : PySem.W.nsIn K mainGlobals "_law_others" = some (some (.ref g9))) (l9 : K.lookup g9 = some ⟨oc9, od9, .func (PySem.W.fnOf "_law_others" "_law_others" (defArgs s9) (defBody s9) (defScope s9) .none kV9 dc9 pm9 an9 cd9 ct9), sl9⟩) (m9 : PySem.W.codeIn K cd9 "_law_others" = true) (k9 : PySem.W.keepIn K (.ref g9) = true)
    (a10 : PySem.W.nsIn K mainGlobals "_law_next" = some (some (.ref g10))) (l10 : K.lookup g10 = some ⟨oc10, od10, .func (PySem.W.fnOf "_law_next" "_law_next" (defArgs s10) (defBody s10) (defScope s10) .none kV10 dc10 pm10 an10 cd10 ct10), sl10⟩) (m10 : PySem.W.codeIn K cd10 "_law_next" = true) (k10 : PySem.W.keepIn K (.ref g10) = true)
    (a11 : PySem.W.nsIn K mainGlobals "_law_words" = some (some (.ref g11))) (l11 : K.lookup g11 = some ⟨oc11, od11, .func (PySem.W.fnOf "_law_words" "_law_words" (defArgs s11) (defBody s11) (defScope s11) .none kV11 dc11 pm11 an11 cd11 ct11), sl11⟩) (m11 : PySem.W.codeIn K cd11 "_law_words" = true) (k11 : PySem.W.keepIn K (.ref g11) = true)
    (a12 : PySem.W.nsIn K mainGlobals "_law_sketch" = some (some (.ref g12))) (l12 : K.lookup g12 = some ⟨oc12, od12, .func (PySem.W.fnOf "_law_sketch" "_law_sketch" (defArgs s12) (defBody s12) (defScope s12) .none kV12 dc12 pm12 an12 cd12 ct12), sl12⟩) (m12 : PySem.W.codeIn K cd12 "_law_sketch" = true) (k12 : PySem.W.keepIn K (.ref g12) = true)
    (a13 : PySem.W.nsIn K mainGlobals "_law_hanging" = some (some (.ref g13))) (l13 : K.lookup g13 = some ⟨oc13, od13, .func (PySem.W.fnOf "_law_hanging" "_law_hanging" (defArgs s13) (defBody s13) (defScope s13) .none kV13 dc13 pm13 an13 cd13 ct13), sl13⟩) (m13 : PySem.W.codeIn K cd13 "_law_hanging" = true) (k13 : PySem.W.keepIn K (.ref g13) = true)
    (a14 : PySem.W.nsIn K mainGlobals "_law_needed" = some (some (.ref g14))) (l14 : K.lookup g14 = some ⟨oc14, od14, .func (PySem.W.fnOf "_law_needed" "_law_needed" (defArgs s14) (defBody s14) (defScope s14) .none kV14 dc14 pm14 an14 cd14 ct14), sl14⟩) (m14 : PySem.W.codeIn K cd14 "_law_needed" = true) (k14 : PySem.W.keepIn K (.ref g14) = true)
    (a15 : PySem.W.nsIn K mainGlobals "_law_right" = some (some (.ref g15))) (l15 : K.lookup g15 = some ⟨oc15, od15, .func (PySem.W.fnOf "_law_right" "_law_right" (defArgs s15) (defBody s15) (defScope s15) .none kV15 dc15 pm15 an15 cd15 ct15), sl15⟩) (m15 : PySem.W.codeIn K cd15 "_law_right" = true) (k15 : PySem.W.keepIn K (.ref g15) = true)
    (a16 : PySem.W.nsIn K mainGlobals "_law_chain" = some (some (.ref g16))) (l16 : K.lookup g16 = some ⟨oc16, od16, .func (PySem.W.fnOf "_law_chain" "_law_chain" (defArgs s16) (defBody s16) (defScope s16) .none kV16 dc16 pm16 an16 cd16 ct16), sl16⟩) (m16 : PySem.W.codeIn K cd16 "_law_chain" = true) (k16 : PySem.W.keepIn K (.ref g16) = true)
    (a17 : PySem.W.nsIn K mainGlobals "law" = some (some (.ref g17))) (l17 : K.lookup g17 = some ⟨oc17, od17, .func (PySem.W.fnOf "law" "law" (defArgs s17) (defBody s17) (defScope s17) .none kV17 dc17 pm17 an17 cd17 ct17), sl17⟩) (m17 : PySem.W.codeIn K cd17 "law" = true) (k17 : PySem.W.keepIn K (.ref g17) = true)
    (z0 : PySem.W.nsIn K mainGlobals "any" = some none)
    (z1 : PySem.W.nsIn K mainGlobals "enumerate" = some none)
    (z2 : PySem.W.nsIn K mainGlobals "int" = some none)
    (z3 : PySem.W.nsIn K mainGlobals "isinstance" = some none)
    (z4 : PySem.W.nsIn K mainGlobals "len" = some none)
    (z5 : PySem.W.nsIn K mainGlobals "list" = some none)
    (z6 : PySem.W.nsIn K mainGlobals "max" = some none)
    (z7 : PySem.W.nsIn K mainGlobals "range" = some none)
    (z8 : PySem.W.nsIn K mainGlobals "repr" = some none)
    (z9 : PySem.W.nsIn K mainGlobals "str" = some none)
    (z10 : PySem.W.nsIn K mainGlobals "tuple" = some none)
    : TextOk P w (plainW K) mg T := by
  refine mk_text (fun f d hd => ?_) rfl fun x hx => ?_
  · match f, hd with
    | 0, hd => cases hd; exact mk_def (st := s0) X G "names_in" rfl a0 l0 m0 k0 sc0 (fun kV doc pm an cdv ct us hl => b0 kV doc pm an cdv ct us hl) c0 (by decide)
    | 1, hd => cases hd; exact mk_def (st := s1) X G "hanging" rfl a1 l1 m1 k1 sc1 (fun kV doc pm an cdv ct us hl => b1 kV doc pm an cdv ct us hl) c1 (by decide)
    | 2, hd => cases hd; exact mk_def (st := s2) X G "needed" rfl a2 l2 m2 k2 sc2 (fun kV doc pm an cdv ct us hl => b2 kV doc pm an cdv ct us hl) c2 (by decide)
    | 3, hd => cases hd; exact mk_def (st := s3) X G "_law_deck" rfl a3 l3 m3 k3 sc3 (fun kV doc pm an cdv ct us hl => b3 kV doc pm an cdv ct us hl) c3 (by decide)
    | 4, hd => cases hd; exact mk_def (st := s4) X G "_law_draw" rfl a4 l4 m4 k4 sc4 (fun kV doc pm an cdv ct us hl => b4 kV doc pm an cdv ct us hl) c4 (by decide)
    | 5, hd => cases hd; exact mk_def (st := s5) X G "_law_pick" rfl a5 l5 m5 k5 sc5 (fun kV doc pm an cdv ct us hl => b5 kV doc pm an cdv ct us hl) c5 (by decide)
    | 6, hd => cases hd; exact mk_def (st := s6) X G "_law_names" rfl a6 l6 m6 k6 sc6 (fun kV doc pm an cdv ct us hl => b6 kV doc pm an cdv ct us hl) c6 (by decide)
    | 7, hd => cases hd; exact mk_def (st := s7) X G "_law_forms" rfl a7 l7 m7 k7 sc7 (fun kV doc pm an cdv ct us hl => b7 kV doc pm an cdv ct us hl) c7 (by decide)
    | 8, hd => cases hd; exact mk_def (st := s8) X G "_law_sort" rfl a8 l8 m8 k8 sc8 (fun kV doc pm an cdv ct us hl => b8 kV doc pm an cdv ct us hl) c8 (by decide)
    | 9, hd => cases hd; exact mk_def (st := s9) X G "_law_others" rfl a9 l9 m9 k9 sc9 (fun kV doc pm an cdv ct us hl => b9 kV doc pm an cdv ct us hl) c9 (by decide)
    | 10, hd => cases hd; exact mk_def (st := s10) X G "_law_next" rfl a10 l10 m10 k10 sc10 (fun kV doc pm an cdv ct us hl => b10 kV doc pm an cdv ct us hl) c10 (by decide)
    | 11, hd => cases hd; exact mk_def (st := s11) X G "_law_words" rfl a11 l11 m11 k11 sc11 (fun kV doc pm an cdv ct us hl => b11 kV doc pm an cdv ct us hl) c11 (by decide)
    | 12, hd => cases hd; exact mk_def (st := s12) X G "_law_sketch" rfl a12 l12 m12 k12 sc12 (fun kV doc pm an cdv ct us hl => b12 kV doc pm an cdv ct us hl) c12 (by decide)
    | 13, hd => cases hd; exact mk_def (st := s13) X G "_law_hanging" rfl a13 l13 m13 k13 sc13 (fun kV doc pm an cdv ct us hl => b13 kV doc pm an cdv ct us hl) c13 (by decide)
    | 14, hd => cases hd; exact mk_def (st := s14) X G "_law_needed" rfl a14 l14 m14 k14 sc14 (fun kV doc pm an cdv ct us hl => b14 kV doc pm an cdv ct us hl) c14 (by decide)
    | 15, hd => cases hd; exact mk_def (st := s15) X G "_law_right" rfl a15 l15 m15 k15 sc15 (fun kV doc pm an cdv ct us hl => b15 kV doc pm an cdv ct us hl) c15 (by decide)
    | 16, hd => cases hd; exact mk_def (st := s16) X G "_law_chain" rfl a16 l16 m16 k16 sc16 (fun kV doc pm an cdv ct us hl => b16 kV doc pm an cdv ct us hl) c16 (by decide)
    | 17, hd => cases hd; exact mk_def (st := s17) X G "law" rfl a17 l17 m17 k17 sc17 (fun kV doc pm an cdv ct us hl => b17 kV doc pm an cdv ct us hl) c17 (by decide)
    | _ + 18, hd => cases hd
  · have hx : x = "any" ∨ x = "enumerate" ∨ x = "int" ∨ x = "isinstance" ∨ x = "len" ∨ x = "list" ∨ x = "max" ∨ x = "range" ∨ x = "repr" ∨ x = "str" ∨ x = "tuple" := by simpa [T] using hx
    rcases hx with rfl | rfl | rfl | rfl | rfl | rfl | rfl | rfl | rfl | rfl | rfl
    · exact PySem.W.mg_none_of X G z0
    · exact PySem.W.mg_none_of X G z1
    · exact PySem.W.mg_none_of X G z2
    · exact PySem.W.mg_none_of X G z3
    · exact PySem.W.mg_none_of X G z4
    · exact PySem.W.mg_none_of X G z5
    · exact PySem.W.mg_none_of X G z6
    · exact PySem.W.mg_none_of X G z7
    · exact PySem.W.mg_none_of X G z8
    · exact PySem.W.mg_none_of X G z9
    · exact PySem.W.mg_none_of X G z10
end K16

namespace K16
open PySem L2 Pd

structure Deck (S : Store) (d c m : Nat) : Prop where
  ex : ∃ (seed n : Int) (cells : List Int), S[d]? = some (.lst [.ref c, .int seed, .int n]) ∧ S[c]? = some (.lst (cells.map .int)) ∧ cells.length ≤ 100 ∧ 0 ≤ n ∧ n ≤ m
  ne : d ≠ c
def Fr (S S' : Store) (d c : Nat) : Prop := S.length ≤ S'.length ∧ ∀ i, i < S.length → i ≠ d → i ≠ c → S'[i]? = S[i]?
theorem Fr.refl (S : Store) (d c : Nat) : Fr S S d c := ⟨Nat.le_refl _, fun _ _ _ _ => rfl⟩
theorem Fr.trans {S S1 S2 : Store} {d c : Nat} (a : Fr S S1 d c) (b : Fr S1 S2 d c) : Fr S S2 d c := ⟨Nat.le_trans a.1 b.1, fun i h1 h2 h3 => (b.2 i (Nat.lt_of_lt_of_le h1 a.1) h2 h3).trans (a.2 i h1 h2 h3)⟩
theorem Fr.set {S : Store} {d c i : Nat} {x : Cell} (h : i = d ∨ i = c) : Fr S (S.set i x) d c := by
  refine ⟨by simp, fun j hj h1 h2 => ?_⟩
  rw [List.getElem?_set_ne]
  rcases h with rfl | rfl
  · exact Ne.symm h1
  · exact Ne.symm h2
theorem Fr.snoc {S : Store} {d c : Nat} {x : Cell} : Fr S (S ++ [x]) d c := ⟨by simp, fun j hj _ _ => by rw [List.getElem?_append_left hj]⟩
theorem Fr.sweep {S S1 : Store} {d c : Nat} {v : Val} (h : Fr S S1 d c) : Fr S (swept S.length v S1) d c := ⟨swept_le h.1, fun i h1 h2 h3 => by rw [swept_at h1]; exact h.2 i h1 h2 h3⟩
theorem Deck.lt {S : Store} {d c m : Nat} (D : Deck S d c m) : d < S.length ∧ c < S.length := by
  obtain ⟨_, _, _, e1, e2, _⟩ := D.ex
  exact ⟨(List.getElem?_eq_some_iff.mp e1).1, (List.getElem?_eq_some_iff.mp e2).1⟩
theorem Deck.sweep {S S1 : Store} {d c m : Nat} {v : Val} (D : Deck S1 d c m) (hd : d < S.length) (hc : c < S.length) : Deck (swept S.length v S1) d c m := by
  obtain ⟨⟨a, b, l, e1, e2, e3⟩, ne⟩ := D
  exact ⟨⟨a, b, l, by rw [swept_at hd]; exact e1, by rw [swept_at hc]; exact e2, e3⟩, ne⟩
theorem fmod_lo (a : Int) {b : Int} (h : 0 < b) : 0 ≤ a.fmod b ∧ a.fmod b < b := ⟨Int.fmod_nonneg_of_pos a h, Int.fmod_lt_of_pos a h⟩

theorem draw_ok {k : Nat} {S : Store} {d c m : Nat} {most : Int} (D : Deck S d c m) (hm : m < 2 ^ 60) (h1 : 1 ≤ most) (h2 : most < 2 ^ 60) : Ev (callF T 64 (k + 1) 4 [.ref d, .int most] S) fun v S' => ∃ z, v = .int z ∧ 0 ≤ z ∧ z < most ∧ Deck S' d c (m + 1) ∧ Fr S S' d c := by
  have hlt := D.lt
  obtain ⟨⟨seed, n, cells, e1, e2, e3, e4, e5⟩, ne⟩ := D
  refine ev_call (d := f4) rfl rfl ?_
  simp only [f4, evSs, evS, evE, evEs, out_seq, out_then, out_nx, out_rt, out_ite, ev_bind, ev_pure, ev_ofOpt, List.map, List.replicate, List.length, List.cons_append, List.nil_append, envGet, envSet, Option.some.injEq, exists_eq_left', Lit.val]
  rw [ev_idxL e1 at3_2, ev_add, ev_setL (n := 2) e1 rfl]
  generalize hS1 : S.set d (.lst ([Val.ref c, .int seed, .int n].set 2 (.int (n + 1)))) = S1
  have g1 : S1[d]? = some (.lst [.ref c, .int seed, .int (n + 1)]) := by rw [← hS1]; exact set_at e1
  have g2 : S1[c]? = some (.lst (cells.map .int)) := by rw [← hS1, List.getElem?_set_ne ne]; exact e2
  have F1 : Fr S S1 d c := by rw [← hS1]; exact Fr.set (.inl rfl)
  rw [ev_idxL g1 at3_1, ev_idxL g1 at3_0, ev_need, ev_alloc]
  refine ⟨by decide, ?_⟩
  have p1 := snoc_old (x := .lst []) g1
  have p2 := snoc_old (x := .lst []) g2
  have F2 := F1.trans (Fr.snoc (x := .lst []))
  have p3 : (S1 ++ [Cell.lst []])[S1.length]? = some (.lst []) := snoc_new
  generalize hS2 : S1 ++ [Cell.lst []] = S2 at p1 p2 p3 F2
  rw [ev_ne (eq_nil p2 p3 (sims_ints cells).1 (by rw [(sims_ints cells).2]; omega)), ev_tb]
  -- the last steps
  have fin : ∀ (cell : Int) (S3 : Store), S3[d]? = some (.lst [.ref c, .int seed, .int (n + 1)]) → (∃ l : List Int, S3[c]? = some (.lst (l.map .int)) ∧ l.length ≤ 100) → Fr S S3 d c →
      Ev (binV .mod (.int cell) (.int 2147483629) S3) fun a S' => Ev (idxV (.ref d) (.int 2) S') fun a_1 S' => Ev (binV .mul (.int 130363) a_1 S') fun a_2 S' => Ev (idxV (.ref d) (.int 2) S') fun a_3 S' => Ev (binV .mul a_2 a_3 S') fun a_4 S' => Ev (binV .add a a_4 S') fun a_5 S' => Ev (idxV (.ref d) (.int 1) S') fun a_6 S' => Ev (binV .add a_5 a_6 S') fun a_7 S4 =>
        Ev (binV .mul a_7 (.int 48271) S4) fun a_8 S' => Ev (idxV (.ref d) (.int 2) S') fun a_9 S' => Ev (binV .mul (.int 40692) a_9 S') fun a_10 S' => Ev (binV .add a_8 a_10 S') fun a_11 S' => Ev (binV .mod a_11 (.int 2147483563) S') fun a_12 S5 =>
        Ev (binV .mul a_12 a_12 S5) fun a_13 S' => Ev (binV .add a_13 (.int 31) S') fun a_14 S' => Ev (binV .mod a_14 (.int 2147483587) S') fun a_15 S6 =>
        Ev (binV .mul a_15 (.int 16807) S6) fun a_16 S' => Ev (binV .mod a_16 (.int 2147483647) S') fun a_17 S' => Ev (binV .fdiv a_17 (.int 64) S') fun a_18 S' => Ev (binV .mod a_18 (.int most) S') fun v S' =>
          ∃ z, v = Val.int z ∧ 0 ≤ z ∧ z < most ∧ Deck (swept S.length v S') d c (m + 1) ∧ Fr S (swept S.length v S') d c := by
    intro cell S3 q1 ⟨l, q2, q3⟩ F3
    rw [ev_mod (by decide), ev_idxL q1 at3_2, ev_mul (small_fits (.inl (by omega))), ev_idxL q1 at3_2, ev_mul (small_fits (.inr (by omega))), ev_add, ev_idxL q1 at3_1, ev_add]
    rw [ev_mul (small_fits (.inr (by omega))), ev_idxL q1 at3_2, ev_mul (small_fits (.inl (by omega))), ev_add, ev_mod (by decide)]
    have b1 := fmod_lo ((cell.fmod 2147483629 + 130363 * (n + 1) * (n + 1) + seed) * 48271 + 40692 * (n + 1)) (b := 2147483563) (by decide)
    rw [ev_mul (small_fits (.inl (by omega))), ev_add, ev_mod (by decide), ev_mul (small_fits (.inr (by omega))), ev_mod (by decide), ev_fdiv (div_fits (by decide) (by decide)), ev_mod (by omega)]
    refine ⟨_, rfl, (fmod_lo _ (by omega)).1, (fmod_lo _ (by omega)).2, Deck.sweep ⟨⟨seed, n + 1, l, q1, q2, q3, by omega, by omega⟩, ne⟩ hlt.1 hlt.2, F3.sweep⟩
  cases hc : cells.isEmpty with
  | true =>
    simp only [List.isEmpty_map, hc, Bool.not_true, Bool.false_eq_true, if_false]
    exact fin _ _ p1 ⟨cells, p2, e3⟩ F2
  | false =>
    simp only [List.isEmpty_map, hc, Bool.not_false, if_true]
    have hne : cells ≠ [] := by intro z; rw [z] at hc; cases hc
    have hv : (cells.map Val.int)[(cells.map Val.int).length - 1]? = some (.int (cells.getLast hne)) := by
      rw [← List.getLast?_eq_getElem?, List.getLast?_map, List.getLast?_eq_getLast hne]
      rfl
    rw [ev_idxL p1 at3_0, ev_recv (recv_lst rfl p2), ev_pop p2 hv, ← List.map_dropLast]
    generalize cells.getLast hne = x
    have hl : cells.dropLast.length + 1 = cells.length := by
      rw [List.length_dropLast]
      have := List.length_pos_iff.mpr hne
      omega
    generalize hL : cells.dropLast = L at hl
    have r1 : (S2.set c (.lst (L.map .int)))[d]? = some (.lst [.ref c, .int seed, .int (n + 1)]) := by rw [List.getElem?_set_ne ne.symm]; exact p1
    have r2 : (S2.set c (.lst (L.map .int)))[c]? = some (.lst (L.map .int)) := set_at p2
    have F3 : Fr S (S2.set c (.lst (L.map .int))) d c := F2.trans (Fr.set (.inr rfl))
    generalize S2.set c (.lst (L.map .int)) = S3 at r1 r2 F3
    rw [ev_pow (by decide), ev_ge, ev_tb]
    by_cases big : (10 : Int) ^ (18 : Int).toNat ≤ x
    · simp only [big, decide_true, if_true]
      rw [ev_idxL r1 at3_0, ev_recv (recv_lst rfl r2), ev_fdiv (div_fits (by omega) (by
        have : most.natAbs < 2 ^ 60 := by omega
        exact Nat.lt_of_lt_of_le this (Nat.pow_le_pow_right (by decide) (by decide)))), ev_append r2 (by rw [List.length_map]; show L.length < 16777216; omega), ev_mod (by omega)]
      refine ⟨_, rfl, (fmod_lo _ (by omega)).1, (fmod_lo _ (by omega)).2, Deck.sweep ⟨⟨seed, n + 1, L ++ [x.fdiv most], ?_, ?_, ?_, by omega, by omega⟩, ne⟩ hlt.1 hlt.2, (F3.trans (Fr.set (.inr rfl))).sweep⟩
      · rw [List.getElem?_set_ne ne.symm]; exact r1
      · rw [set_at r2]; simp
      · simp; omega
    · simp only [big, decide_false, Bool.false_eq_true, if_false]
      exact fin _ _ r1 ⟨L, r2, by omega⟩ F3
end K16

namespace K16
open PySem L2 Pd

def isS : Val → Bool
  | .str _ => true
  | _ => false
theorem isS_ty (S : Store) (v : Val) : ([Ty.str].any (tyMatch (Pd.tyV S v))) = isS v := by
  cases v <;> try rfl
  rename_i i
  simp only [Pd.tyV]
  cases S[i]? with
  | none => rfl
  | some c => cases c <;> rfl
theorem filter_take {α : Type} (p : α → Bool) {l : List α} {k : Nat} {x : α} (h : l[k]? = some x) : (l.take (k + 1)).filter p = (l.take k).filter p ++ (if p x = true then [x] else []) := by
  rw [List.take_succ, h, List.filter_append]
  show _ ++ [x].filter p = _
  cases hp : p x <;> simp [hp]
theorem names_in_ok {k : Nat} {S : Store} {w o : Val} {others : List Val} (hz : others.length ≤ 1000) : Ev (callF T 64 (k + 1) 0 [.tup (w :: o :: others)] S) fun v S' => v = .tup (others.filter isS) ∧ Old S S' := by
  (refine ev_call (d := f0) rfl rfl ?_; simp only [f0, evSs, evS, evE, evEs, evO, evK, evI, evD, out_seq, out_then, out_nx, out_rt, out_ite, ev_bind, ev_pure, ev_ofOpt, ev_noExc, ev_alloc, ev_need, ev_ite', List.map, List.replicate, List.length, List.cons_append, List.nil_append, envGet, envSet, envDels, envDel, Option.some.injEq, exists_eq_left', Lit.val])
  have hst : starV S (.tup (w :: o :: others)) (lenTs (.cons (.name 1) (.cons (.name 2) (.cons (.name 3) .nil)))) 2 = some ([w, o, .ref S.length], others) := by
    unfold starV
    dsimp only
    rw [if_pos (by simp [lenTs]; omega)]
    simp [lenTs]
  rw [hst]
  simp only [evTs, evT, out_nx, envGet, envSet, envDels, envDel]
  (simp only [evSs, evS, evE, evEs, evO, evK, evI, evD, out_seq, out_then, out_nx, out_rt, out_ite, ev_bind, ev_pure, ev_ofOpt, ev_noExc, ev_alloc, ev_need, ev_ite', List.map, List.replicate, List.length, List.cons_append, List.nil_append, envGet, envSet, envDels, envDel, Option.some.injEq, exists_eq_left', Lit.val])
  have h1 : (S ++ [Cell.lst others])[S.length]? = some (.lst others) := snoc_new
  rw [ev_srcL h1]
  refine ev_lc (xs := others) (fun _ x => x) (fun k acc S' => S' = S ++ [Cell.lst others] ∧ acc = (others.take k).filter isS) (len_dyn h1) (fun k acc S' hJ => by rw [hJ.1]; exact at_dyn h1) (fun k x acc S' hx ha hJ => ?_) (by show others.length ≤ 16777216; omega) ⟨rfl, by simp⟩ (fun l S2 hJ _ => ?_)
  · refine ⟨_, rfl, ?_⟩
    (simp only [evSs, evS, evE, evEs, evO, evK, evI, evD, out_seq, out_then, out_nx, out_rt, out_ite, ev_bind, ev_pure, ev_ofOpt, ev_noExc, ev_alloc, ev_need, ev_ite', List.map, List.replicate, List.length, List.cons_append, List.nil_append, envGet, envSet, envDels, envDel, Option.some.injEq, exists_eq_left', Lit.val])
    obtain ⟨rfl, rfl⟩ := hJ
    have ht := filter_take isS hx
    rw [ev_isin, ev_tb, isS_ty]
    cases hs : isS x with
    | true =>
      rw [if_pos rfl]
      refine ⟨rfl, ?_⟩
      rw [ht, hs]
      simp
    | false =>
      rw [if_neg Bool.false_ne_true]
      refine ⟨rfl, ?_⟩
      rw [ht, hs]
      simp
  · obtain ⟨rfl, rfl⟩ := hJ
    rw [List.take_length, ev_tuple (lstOf_at snoc_new)]
    exact ⟨rfl, ((Old.snoc).trans Old.snoc).sweep⟩
end K16

namespace K16
open PySem L2 Pd

/-- a step of a sketch -/
structure Stp where
  w : Str
  o : Str
  xs : List Val
def Stp.v (s : Stp) : Val := .tup (.str s.w :: .str s.o :: s.xs)
def kin (known : List Str) : Val → Bool
  | .str x => known.contains x
  | _ => false
def hstep (a : List Str × List Val) (k : Nat) (s : Stp) : List Str × List Val := if (s.xs.filter isS).any (kin a.1) = true then (a.1 ++ [s.o], a.2 ++ [.int (k : Nat)]) else a
def hs (name : Str) (steps : List Stp) : Nat → List Str × List Val
  | 0 => ([name], [])
  | k + 1 => match steps[k]? with
    | some s => hstep (hs name steps k) k s
    | none => hs name steps k
theorem hs_len (name : Str) (steps : List Stp) : ∀ k, (hs name steps k).2.length ≤ k ∧ (hs name steps k).1.length ≤ k + 1
  | 0 => by simp [hs]
  | k + 1 => by
    have ih := hs_len name steps k
    unfold hs
    cases steps[k]? with
    | none => exact ⟨by have := ih.1; dsimp only; omega, by have := ih.2; dsimp only; omega⟩
    | some s =>
      dsimp only
      unfold hstep
      split
      · simp; omega
      · exact ⟨by omega, by omega⟩
theorem boolsOf_map : ∀ bs : List Bool, boolsOf (bs.map .bl) = some bs
  | [] => rfl
  | b :: bs => by simp [boolsOf, boolsOf_map bs]
theorem ev_any {S : Store} {Q : Val → Store → Prop} {i : Nat} {bs : List Bool} (h : S[i]? = some (.lst (bs.map .bl))) : Ev (biV .any [.ref i] S) Q = Q (.bl (bs.any id)) S := by
  show Ev (anyF (.ref i) S) Q = _
  unfold anyF
  rw [lstOf_at h]
  dsimp only
  rw [boolsOf_map]; rfl
/-- a dict whose keys are these texts -/
def Keys (kvs : List (DKey × Val)) (known : List Str) : Prop := ∀ x : Str, (lookV kvs (.inr x)).isSome = known.contains x
theorem look_any {kvs : List (DKey × Val)} {q : DKey} : (lookV kvs q).isSome = kvs.any fun e => decide (e.1 = q) := by
  induction kvs with
  | nil => rfl
  | cons e r ih =>
    obtain ⟨k, v⟩ := e
    unfold lookV
    by_cases h : k = q
    · simp [h]
    · simp [h, ih]
theorem Keys.put {kvs : List (DKey × Val)} {known : List Str} (h : Keys kvs known) (y : Str) (v : Val) : Keys (putV kvs (.inr y) v) (known ++ [y]) := by
  intro x
  have hx := h x
  rw [look_any] at hx ⊢
  have e1 : ∀ l : List (DKey × Val), (l.map fun e => if e.1 = Sum.inr y then (e.1, v) else e).any (fun e => decide (e.1 = Sum.inr x)) = l.any fun e => decide (e.1 = Sum.inr x) := by
    intro l
    induction l with
    | nil => rfl
    | cons e l ih =>
      rw [List.map_cons, List.any_cons, List.any_cons, ih]
      congr 1
      split <;> rfl
  unfold putV
  by_cases c : (kvs.any fun e => decide (e.1 = Sum.inr y)) = true
  · rw [if_pos c, e1, hx]
    have hy := h y
    rw [look_any, c] at hy
    by_cases q : x = y
    · subst q
      have hm : x ∈ known := List.contains_iff_mem.mp hy.symm
      simp [hm]
    · simp [q]
  · rw [if_neg c, List.any_append, hx]
    simp [eq_comm]
theorem putV_len (kvs : List (DKey × Val)) (q : DKey) (v : Val) : (putV kvs q v).length ≤ kvs.length + 1 := by
  unfold putV
  split <;> simp

structure Fine (steps : List Stp) : Prop where
  many : steps.length ≤ 100
  few : ∀ s ∈ steps, s.xs.length ≤ 100
theorem at_pair {α : Type} {a b : α} {r : List α} : L2.atI (a :: b :: r) 1 = some b := by
  unfold L2.atI L2.ixN
  rw [if_pos (by decide), if_pos (by simp; omega)]
  rfl
theorem hanging_ok {k : Nat} {S : Store} {steps : List Stp} {name : Str} (F : Fine steps) : Ev (callF T 64 (k + 2) 1 [.tup (steps.map Stp.v), .str name] S) fun v S' => v = .tup (hs name steps steps.length).2 ∧ Old S S' := by
  (refine ev_call (d := f1) rfl rfl ?_; simp only [f1, evSs, evS, evE, evEs, evO, evK, evI, evD, out_seq, out_then, out_nx, out_rt, out_ite, ev_bind, ev_pure, ev_ofOpt, ev_noExc, ev_alloc, ev_need, ev_ite', List.map, List.replicate, List.length, List.cons_append, List.nil_append, envGet, envSet, envDels, envDel, Option.some.injEq, exists_eq_left', Lit.val])
  simp only [keyOf]
  refine ⟨by decide, ?_⟩
  rw [ev_pure, ev_enumT]
  refine out_loop (xs := steps.map Stp.v) (fun i x => .tup [.int (i : Nat), x]) (fun i env S' => ∃ e f g kvs, env = [some (.tup (steps.map Stp.v)), some (.str name), some (.ref S.length), some (.ref (S ++ [Cell.lst []]).length), e, f, g] ∧
    Old S S' ∧ S'[S.length]? = some (.lst (hs name steps i).2) ∧ S'[S.length + 1]? = some (.dct kvs) ∧ Keys kvs (hs name steps i).1 ∧ kvs.length ≤ i + 1) rfl (fun i env S' _ => ?_) (fun i x env S1 hx hJ => ?_) ?_ (fun env S' hJ => ?_)
  · show some _ = _
    rfl
  · obtain ⟨e, f, g, kvs, rfl, o1, p1, q1, K, hk⟩ := hJ
    obtain ⟨s, hs1, rfl⟩ : ∃ s, steps[i]? = some s ∧ s.v = x := by
      rw [List.getElem?_map] at hx
      exact Option.map_eq_some_iff.mp hx
    have hi : i < steps.length := (List.getElem?_eq_some_iff.mp hs1).1
    have hm := F.many
    have hfew := F.few s (List.mem_of_getElem? hs1)
    refine ⟨_, rfl, ?_⟩
    (simp only [evSs, evS, evE, evEs, evO, evK, evI, evD, out_seq, out_then, out_nx, out_rt, out_ite, ev_bind, ev_pure, ev_ofOpt, ev_noExc, ev_alloc, ev_need, ev_ite', List.map, List.replicate, List.length, List.cons_append, List.nil_append, envGet, envSet, envDels, envDel, Option.some.injEq, exists_eq_left', Lit.val])
    refine (names_in_ok (k := k) (by omega)).imp fun v S2 h2 => ?_
    obtain ⟨rfl, o2⟩ := h2
    rw [ev_srcT]
    have p2 := o2.at p1
    have q2 := o2.at q1
    refine ev_lc (xs := s.xs.filter isS) (fun _ x => x) (fun j acc S' => S' = S2 ∧ acc = ((s.xs.filter isS).take j).map fun x => .bl (kin (hs name steps i).1 x)) rfl (fun j acc S' _ => by show some _ = _; simp) (fun j x acc S' hx ha hJ => ?_) ?_ ⟨rfl, by simp⟩ (fun l S' hJ _ => ?_)
    · obtain ⟨rfl, rfl⟩ := hJ
      refine ⟨_, rfl, ?_⟩
      (simp only [evSs, evS, evE, evEs, evO, evK, evI, evD, out_seq, out_then, out_nx, out_rt, out_ite, ev_bind, ev_pure, ev_ofOpt, ev_noExc, ev_alloc, ev_need, ev_ite', List.map, List.replicate, List.length, List.cons_append, List.nil_append, envGet, envSet, envDels, envDel, Option.some.injEq, exists_eq_left', Lit.val])
      rw [if_pos trivial]
      have hs2 : isS x = true := (List.mem_filter.mp (List.mem_of_getElem? hx)).2
      cases x <;> first | (cases hs2; done) | skip
      rename_i x
      have hin : Pd.inV S' (.str x) (.ref (S ++ [Cell.lst []]).length) = some (kin (hs name steps i).1 (.str x)) := by
        have e1 : (S ++ [Cell.lst []]).length = S.length + 1 := by simp
        rw [e1]
        unfold Pd.inV seqOf
        dsimp only
        rw [q2]
        dsimp only
        rw [show keyOf (.str x) = some (.inr x) from rfl]
        dsimp only
        rw [K x]
        rfl
      rw [ev_in hin]
      refine ⟨rfl, ?_⟩
      rw [List.take_succ, hx]
      simp
    · show (s.xs.filter isS).length ≤ 16777216
      have := List.length_filter_le isS s.xs
      omega
    · obtain ⟨rfl, rfl⟩ := hJ
      rw [List.take_length]
      have ha : (S' ++ [Cell.lst ((s.xs.filter isS).map fun x => Val.bl (kin (hs name steps i).1 x))])[S'.length]? = some (.lst (((s.xs.filter isS).map (kin (hs name steps i).1)).map .bl)) := by
        rw [snoc_new, List.map_map]; rfl
      rw [ev_any ha, ev_tb]
      have hstep' : hs name steps (i + 1) = hstep (hs name steps i) i s := by
        show (match steps[i]? with | some s => hstep (hs name steps i) i s | none => hs name steps i) = _
        rw [hs1]
      have e2 : ((s.xs.filter isS).map (kin (hs name steps i).1)).any id = (s.xs.filter isS).any (kin (hs name steps i).1) := by
        rw [List.any_map]; rfl
      rw [e2]
      have p3 := snoc_old (x := Cell.lst ((s.xs.filter isS).map fun x => Val.bl (kin (hs name steps i).1 x))) p2
      have q3 := snoc_old (x := Cell.lst ((s.xs.filter isS).map fun x => Val.bl (kin (hs name steps i).1 x))) q2
      have o3 := (o1.trans o2).trans (Old.snoc (x := Cell.lst ((s.xs.filter isS).map fun x => Val.bl (kin (hs name steps i).1 x))))
      generalize S' ++ [Cell.lst ((s.xs.filter isS).map fun x => Val.bl (kin (hs name steps i).1 x))] = S3 at p3 q3 o3
      by_cases c : (s.xs.filter isS).any (kin (hs name steps i).1) = true
      · rw [if_pos c]
        have hl := hs_len name steps i
        rw [ev_recv (recv_lst rfl p3), ev_append p3 (by show _ < 16777216; omega)]
        have ne1 : S.length ≠ S.length + 1 := by omega
        have e1 : (S ++ [Cell.lst []]).length = S.length + 1 := by simp
        have p4 : (S3.set S.length (.lst ((hs name steps i).2 ++ [.int (i : Nat)])))[S.length]? = some (.lst ((hs name steps i).2 ++ [.int (i : Nat)])) := set_at p3
        have q4 : (S3.set S.length (.lst ((hs name steps i).2 ++ [.int (i : Nat)])))[S.length + 1]? = some (.dct kvs) := by rw [List.getElem?_set_ne ne1]; exact q3
        have o4 := o3.set (x := .lst ((hs name steps i).2 ++ [.int (i : Nat)])) (Nat.le_refl _)
        generalize S3.set S.length (.lst ((hs name steps i).2 ++ [.int (i : Nat)])) = S4 at p4 q4 o4
        rw [show s.v = .tup (.str s.w :: .str s.o :: s.xs) from rfl, ev_idxT (v := .str s.o) at_pair, e1, ev_setD (q := .inr s.o) q4 rfl (by show _ < 16777216; omega)]
        have hl2 := putV_len kvs (.inr s.o) (.bl true)
        refine ⟨_, _, _, putV kvs (.inr s.o) (.bl true), rfl, o4.set (by omega), ?_, set_at q4, ?_, by omega⟩
        · rw [List.getElem?_set_ne ne1.symm, hstep']; unfold hstep; rw [if_pos c]; exact p4
        · rw [hstep']; unfold hstep; rw [if_pos c]; exact K.put _ _
      · rw [if_neg c]
        refine ⟨_, _, _, kvs, rfl, o3, ?_, q3, ?_, by omega⟩
        · rw [hstep']; unfold hstep; rw [if_neg c]; exact p3
        · rw [hstep']; unfold hstep; rw [if_neg c]; exact K
  · refine ⟨none, none, none, [(.inr name, .bl true)], rfl, (Old.snoc).trans Old.snoc, ?_, ?_, ?_, by simp⟩
    · exact snoc_old snoc_new
    · have e1 : (S ++ [Cell.lst []]).length = S.length + 1 := by simp
      rw [← e1, snoc_new]
      rfl
    · intro x
      show (lookV [(Sum.inr name, Val.bl true)] (.inr x)).isSome = [name].contains x
      unfold lookV
      by_cases q : x = name
      · subst q; simp
      · have q' : ¬ (Sum.inr name : DKey) = .inr x := fun z => q (Sum.inr.inj z).symm
        rw [if_neg q']
        simp [lookV, q]
  · obtain ⟨e, f, g, kvs, rfl, o1, p1, q1, K, hk⟩ := hJ
    rw [List.length_map] at p1
    refine ⟨_, rfl, ?_⟩
    rw [ev_tuple (lstOf_at p1)]
    exact ⟨rfl, o1.sweep⟩
end K16

namespace K16
open PySem L2 Pd

theorem sims_of {l : List Val} (h : ∀ x ∈ l, sim x = true) : sims l = true := by
  induction l with
  | nil => rfl
  | cons x l ih => simp [sims, h x List.mem_cons_self, ih fun y hy => h y (List.mem_cons_of_mem _ hy)]
theorem sims_mem {l : List Val} (h : sims l = true) : ∀ x ∈ l, sim x = true := by
  induction l with
  | nil => intro x hx; cases hx
  | cons y l ih =>
    simp only [sims, Bool.and_eq_true] at h
    intro x hx
    rcases List.mem_cons.mp hx with rfl | hx
    · exact h.1
    · exact ih h.2 x hx
theorem vdeps_of {l : List Val} {n : Nat} (h : ∀ x ∈ l, vdep x ≤ n) : vdeps l ≤ n := by
  induction l with
  | nil => simp [vdeps]
  | cons x l ih =>
    have h1 := h x List.mem_cons_self
    have h2 := ih fun y hy => h y (List.mem_cons_of_mem _ hy)
    simp only [vdeps]
    omega
theorem cut2 {a b : Val} {xs : List Val} : cutL (a :: b :: xs) (some 2) none = xs := by
  unfold cutL
  have e1 : HT.sIx (a :: b :: xs).length 0 (some 2) = 2 := by
    unfold HT.sIx
    simp
  have e2 : HT.sIx (a :: b :: xs).length (a :: b :: xs).length none = xs.length + 2 := by
    unfold HT.sIx
    simp
  rw [e1, e2]
  simp
/-- x in a list of texts -/
theorem in_strs {S : Store} {p : Nat} {known : List Str} {x : Str} (h : S[p]? = some (.lst (known.map .str))) : Pd.inV S (.str x) (.ref p) = some (known.contains x) := by
  unfold Pd.inV
  rw [seqOf_at h]
  dsimp only
  have e1 : (known.map Val.str).all Pd.flatV = true := by
    rw [List.all_map]
    simp [Pd.flatV]
  rw [e1]
  show some _ = _
  congr 1
  rw [List.any_map, List.contains_eq_any_beq]
  congr 1
  funext y
  show Pd.flatEq (.str y) (.str x) = _
  show (y == x) = (x == y)
  exact BEq.comm
structure Plain (steps : List Stp) : Prop where
  sm : ∀ s ∈ steps, ∀ x ∈ s.xs, sim x = true ∧ vdep x ≤ 5

theorem law_hanging_ok {k : Nat} {S : Store} {steps : List Stp} {name : Str} (F : Fine steps) (P : Plain steps) :
    Ev (callF T 64 (k + 1) 13 [.tup (steps.map Stp.v), .str name] S) fun v S' => ∃ r, v = .ref r ∧ S.length ≤ r ∧ S'[r]? = some (.lst (hs name steps steps.length).2) ∧ Old S S' := by
  (refine ev_call (d := f13) rfl rfl ?_; simp only [f13, evSs, evS, evE, evEs, evO, evK, evI, evD, out_seq, out_then, out_nx, out_rt, out_ite, ev_bind, ev_pure, ev_ofOpt, ev_noExc, ev_alloc, ev_need, ev_ite', List.map, List.replicate, List.length, List.cons_append, List.nil_append, envGet, envSet, envDels, envDel, Option.some.injEq, exists_eq_left', Lit.val])
  refine ⟨rfl, rfl, ?_⟩
  rw [ev_enumT]
  have e0 : (S ++ [Cell.lst [Val.str name]]).length = S.length + 1 := by simp
  refine out_loop (xs := steps.map Stp.v) (fun i x => .tup [.int (i : Nat), x]) (fun i env S' => ∃ e f g, env = [some (.tup (steps.map Stp.v)), some (.str name), some (.ref S.length), some (.ref (S.length + 1)), e, f, g] ∧
    Old S S' ∧ S'[S.length]? = some (.lst ((hs name steps i).1.map .str)) ∧ S'[S.length + 1]? = some (.lst (hs name steps i).2)) rfl (fun i env S' _ => ?_) (fun i x env S1 hx hJ => ?_) ?_ (fun env S' hJ => ?_)
  · show some _ = _
    rfl
  · obtain ⟨e, f, g, rfl, o1, p1, q1⟩ := hJ
    obtain ⟨s, hs1, rfl⟩ : ∃ s, steps[i]? = some s ∧ s.v = x := by
      rw [List.getElem?_map] at hx
      exact Option.map_eq_some_iff.mp hx
    have hi : i < steps.length := (List.getElem?_eq_some_iff.mp hs1).1
    have hm := F.many
    have hfew := F.few s (List.mem_of_getElem? hs1)
    refine ⟨_, rfl, ?_⟩
    (simp only [evSs, evS, evE, evEs, evO, evK, evI, evD, out_seq, out_then, out_nx, out_rt, out_ite, ev_bind, ev_pure, ev_ofOpt, ev_noExc, ev_alloc, ev_need, ev_ite', List.map, List.replicate, List.length, List.cons_append, List.nil_append, envGet, envSet, envDels, envDel, Option.some.injEq, exists_eq_left', Lit.val])
    have hsl : ∀ (Q : Val → Store → Prop), Ev (slcV s.v (some 2) none S1) Q = Q (.tup s.xs) S1 := by
      intro Q
      show Ev ((pure (.tup (cutL (.str s.w :: .str s.o :: s.xs) (some 2) none)) : M Val) S1) Q = _
      rw [cut2]; rfl
    rw [hsl, ev_srcT]
    refine ev_lc (xs := s.xs) (fun _ x => x) (fun j acc S' => S' = S1 ∧ acc = (s.xs.take j).filter fun x => isS x && kin (hs name steps i).1 x) rfl (fun j acc S' _ => by show some _ = _; simp) (fun j x acc S' hx ha hJ => ?_) ?_ ⟨rfl, by simp⟩ (fun l S' hJ _ => ?_)
    · obtain ⟨rfl, rfl⟩ := hJ
      refine ⟨_, rfl, ?_⟩
      (simp only [evSs, evS, evE, evEs, evO, evK, evI, evD, out_seq, out_then, out_nx, out_rt, out_ite, ev_bind, ev_pure, ev_ofOpt, ev_noExc, ev_alloc, ev_need, ev_ite', List.map, List.replicate, List.length, List.cons_append, List.nil_append, envGet, envSet, envDels, envDel, Option.some.injEq, exists_eq_left', Lit.val])
      rw [ev_isin, ev_tb, isS_ty]
      have ht := filter_take (fun x => isS x && kin (hs name steps i).1 x) hx
      have fin : ∀ b : Bool, b = (isS x && kin (hs name steps i).1 x) → if b = true then S' = S' ∧ (s.xs.take j).filter (fun x => isS x && kin (hs name steps i).1 x) ++ [x] = (s.xs.take (j + 1)).filter (fun x => isS x && kin (hs name steps i).1 x)
          else S' = S' ∧ (s.xs.take j).filter (fun x => isS x && kin (hs name steps i).1 x) = (s.xs.take (j + 1)).filter (fun x => isS x && kin (hs name steps i).1 x) := by
        intro b hb
        rw [ht, ← hb]
        cases b <;> simp
      cases hS : isS x with
      | true =>
        rw [if_pos rfl]
        cases x <;> first | (cases hS; done) | skip
        rename_i x
        rw [ev_in (in_strs p1), ev_tb]
        exact fin _ rfl
      | false =>
        rw [if_neg Bool.false_ne_true, ev_tb]
        have := fin false (by rw [hS]; rfl)
        simpa using this
    · show s.xs.length ≤ 16777216
      omega
    · obtain ⟨rfl, rfl⟩ := hJ
      rw [List.take_length]
      generalize hL : s.xs.filter (fun x => isS x && kin (hs name steps i).1 x) = L
      have mem : ∀ x ∈ L, x ∈ s.xs := fun x hx => by rw [← hL] at hx; exact (List.mem_filter.mp hx).1
      have sm := P.sm s (List.mem_of_getElem? hs1)
      have a1 : (S' ++ [Cell.lst L])[S'.length]? = some (.lst L) := snoc_new
      have a2 := snoc_old (x := Cell.lst []) a1
      have a3 : ((S' ++ [Cell.lst L]) ++ [Cell.lst []])[(S' ++ [Cell.lst L]).length]? = some (.lst []) := snoc_new
      have p2 := snoc_old (x := Cell.lst []) (snoc_old (x := Cell.lst L) p1)
      have q2 := snoc_old (x := Cell.lst []) (snoc_old (x := Cell.lst L) q1)
      have o2 := (o1.trans (Old.snoc (x := Cell.lst L))).trans (Old.snoc (x := Cell.lst []))
      refine ⟨rfl, ?_⟩
      rw [ev_lcNe a2 a3 (sims_of fun x hx => (sm x (mem x hx)).1) (Nat.le_trans (vdeps_of fun x hx => (sm x (mem x hx)).2) (by decide)), ev_tb]
      generalize (S' ++ [Cell.lst L]) ++ [Cell.lst []] = S3 at p2 q2 o2
      have hstep' : hs name steps (i + 1) = hstep (hs name steps i) i s := by
        show (match steps[i]? with | some s => hstep (hs name steps i) i s | none => hs name steps i) = _
        rw [hs1]
      have ec : (!L.isEmpty) = (s.xs.filter isS).any (kin (hs name steps i).1) := by
        rw [← hL]
        generalize s.xs = l
        induction l with
        | nil => rfl
        | cons x l ih =>
          rw [List.filter_cons, List.filter_cons]
          cases isS x <;> cases hk : kin (hs name steps i).1 x <;> simp_all
      rw [ec]
      by_cases c : (s.xs.filter isS).any (kin (hs name steps i).1) = true
      · rw [if_pos c]
        have hl := hs_len name steps i
        have ne1 : S.length ≠ S.length + 1 := by omega
        rw [ev_recv (recv_lst rfl p2), show s.v = .tup (.str s.w :: .str s.o :: s.xs) from rfl, ev_idxT (v := .str s.o) at_pair, ev_append p2 (by rw [List.length_map]; show _ < 16777216; omega)]
        have p3 : (S3.set S.length (.lst ((hs name steps i).1.map .str ++ [.str s.o])))[S.length]? = some (.lst ((hs name steps i).1.map .str ++ [.str s.o])) := set_at p2
        have q3 : (S3.set S.length (.lst ((hs name steps i).1.map .str ++ [.str s.o])))[S.length + 1]? = some (.lst (hs name steps i).2) := by rw [List.getElem?_set_ne ne1]; exact q2
        have o3 := o2.set (x := .lst ((hs name steps i).1.map .str ++ [.str s.o])) (Nat.le_refl _)
        generalize S3.set S.length (.lst ((hs name steps i).1.map .str ++ [.str s.o])) = S4 at p3 q3 o3
        rw [ev_recv (recv_lst rfl q3), ev_append q3 (by show _ < 16777216; omega)]
        refine ⟨_, _, _, rfl, o3.set (by omega), ?_, ?_⟩
        · rw [List.getElem?_set_ne ne1.symm, p3, hstep']
          unfold hstep
          rw [if_pos c]
          simp
        · rw [set_at q3, hstep']
          unfold hstep
          rw [if_pos c]
      · rw [if_neg c]
        refine ⟨_, _, _, rfl, o2, ?_, ?_⟩
        · rw [hstep']; unfold hstep; rw [if_neg c]; exact p2
        · rw [hstep']; unfold hstep; rw [if_neg c]; exact q2
  · refine ⟨none, none, none, by rw [e0], (Old.snoc).trans Old.snoc, snoc_old snoc_new, ?_⟩
    rw [← e0, snoc_new]; rfl
  · obtain ⟨e, f, g, rfl, o1, p1, q1⟩ := hJ
    rw [List.length_map] at p1 q1
    refine ⟨_, rfl, ?_⟩
    rw [swept_new (by omega)]
    exact ⟨_, rfl, by omega, q1, o1⟩
end K16

namespace K16
open PySem L2 Pd

theorem look_put {kvs : List (DKey × Val)} {y q : DKey} {v : Val} : (lookV (putV kvs y v) q).isSome = ((lookV kvs q).isSome || decide (y = q)) := by
  rw [look_any, look_any]
  have e1 : ∀ l : List (DKey × Val), (l.map fun e => if e.1 = y then (e.1, v) else e).any (fun e => decide (e.1 = q)) = l.any fun e => decide (e.1 = q) := by
    intro l
    induction l with
    | nil => rfl
    | cons e l ih =>
      rw [List.map_cons, List.any_cons, List.any_cons, ih]
      congr 1
      split <;> rfl
  unfold putV
  by_cases c : (kvs.any fun e => decide (e.1 = y)) = true
  · rw [if_pos c, e1]
    by_cases h : y = q
    · subst h
      rw [c]
      rfl
    · simp [h]
  · rw [if_neg c, List.any_append]
    simp
theorem look_merge : ∀ {more kvs : List (DKey × Val)} {q : DKey}, (lookV (mergeV kvs more) q).isSome = ((lookV kvs q).isSome || (lookV more q).isSome)
  | [], kvs, q => by simp [mergeV, lookV]
  | (y, v) :: r, kvs, q => by
    show (lookV (mergeV (putV kvs y v) r) q).isSome = _
    rw [look_merge, look_put]
    have e2 : (lookV ((y, v) :: r) q).isSome = (decide (y = q) || (lookV r q).isSome) := by
      rw [look_any, look_any, List.any_cons]
    rw [e2, Bool.or_assoc]
theorem merge_len : ∀ {more kvs : List (DKey × Val)}, (mergeV kvs more).length ≤ kvs.length + more.length
  | [], kvs => by simp [mergeV]
  | (y, v) :: r, kvs => by
    show (mergeV (putV kvs y v) r).length ≤ _
    have h1 := merge_len (more := r) (kvs := putV kvs y v)
    have h2 := putV_len kvs y v
    simp only [List.length_cons]
    omega
theorem Keys.merge {kvs more : List (DKey × Val)} {a b : List Str} (h : Keys kvs a) (g : Keys more b) : Keys (mergeV kvs more) (a ++ b) := by
  intro x
  rw [look_merge, h x, g x]
  simp
theorem keys_nil : Keys [] [] := fun x => rfl
/-- the texts among some values -/
def txs : List Val → List Str
  | [] => []
  | .str x :: r => x :: txs r
  | _ :: r => txs r
theorem txs_filter (l : List Val) : l.filter isS = (txs l).map .str := by
  induction l with
  | nil => rfl
  | cons x l ih => cases x <;> simp [txs, isS, List.filter_cons, ih]
theorem txs_len (l : List Val) : (txs l).length ≤ l.length := by
  have := List.length_filter_le isS l
  rw [txs_filter, List.length_map] at this
  exact this
/-- {x: True for x in some texts} -/
theorem ev_dset {S : Store} {Q : List (DKey × Val) → Store → Prop} {l : List Str} {i : Nat} {env : Pd.Env} (hz : l.length ≤ 1000) (hi : ∀ v, envGet (envSet env i v) i = some v) (hQ : ∀ kvs, Keys kvs l → kvs.length ≤ l.length → Q kvs S) :
    Ev (noExc (fun S1 => dcompLoop (.stat (l.map .str)) (fun S x => evT S (.name i) x env) (fun _ => pure true) (fun e => ofOpt (envGet e i)) (fun _ => pure (.bl true)) ((Src.stat (l.map .str)).len S1) 0 [] S1) S) Q := by
  refine ev_dc (xs := l.map .str) (fun _ x => x) (fun j acc S' => S' = S ∧ Keys acc (l.take j) ∧ acc.length ≤ j) rfl (fun j acc S' _ => by show some _ = some (Option.map (fun x => x) _); rw [Option.map_id']) (fun j x acc S' hx hJ => ?_) ⟨rfl, by simpa using keys_nil, by simp⟩ (fun kvs S' hJ => ?_)
  · obtain ⟨rfl, h1, h2⟩ := hJ
    obtain ⟨y, hy, rfl⟩ : ∃ y, l[j]? = some y ∧ Val.str y = x := by
      rw [List.getElem?_map] at hx
      exact Option.map_eq_some_iff.mp hx
    have hj := (List.getElem?_eq_some_iff.mp hy).1
    refine ⟨_, rfl, ?_⟩
    rw [ev_pure, if_pos rfl, hi]
    show ∃ q, keyOf (Val.str y) = some q ∧ acc.length < sizeMax ∧ _
    refine ⟨.inr y, rfl, by show _ < 16777216; omega, rfl, ?_, ?_⟩
    · rw [List.take_succ, hy]
      exact h1.put y _
    · have := putV_len acc (.inr y) (.bl true)
      omega
  · obtain ⟨rfl, h1, h2⟩ := hJ
    rw [List.length_map] at h1 h2
    rw [List.take_length] at h1
    exact hQ kvs h1 h2

/-! ### needed -/
def nstep (a : List Str × List Val) (m : Nat) (s : Stp) : List Str × List Val := if a.1.contains s.o = true then (a.1 ++ txs s.xs, a.2 ++ [.int (m : Nat)]) else a
/-- behind j turns, from the end -/
def nds (names : List Str) (steps : List Stp) : Nat → List Str × List Val
  | 0 => (names, [])
  | j + 1 => match steps[steps.length - 1 - j]? with
    | some s => nstep (nds names steps j) (steps.length - 1 - j) s
    | none => nds names steps j
theorem nds_len (names : List Str) (steps : List Stp) : ∀ j, (nds names steps j).2.length ≤ j
  | 0 => by simp [nds]
  | j + 1 => by
    have ih := nds_len names steps j
    unfold nds
    cases steps[steps.length - 1 - j]? with
    | none => dsimp only; omega
    | some s =>
      dsimp only
      unfold nstep
      split
      · simp; omega
      · omega
theorem in_dict {S : Store} {d : Nat} {kvs : List (DKey × Val)} {x : Str} {known : List Str} (h : S[d]? = some (.dct kvs)) (K : Keys kvs known) : Pd.inV S (.str x) (.ref d) = some (known.contains x) := by
  unfold Pd.inV seqOf
  dsimp only
  rw [h]
  dsimp only
  rw [show keyOf (.str x) = some (.inr x) from rfl]
  dsimp only
  rw [K x]
theorem ev_update {S : Store} {Q : Val → Store → Prop} {i j : Nat} {kvs more : List (DKey × Val)} (h : S[i]? = some (.dct kvs)) (h' : S[j]? = some (.dct more)) (hij : i ≠ j) (hz : kvs.length + more.length ≤ sizeMax) : Ev (bmV .update (.ref i) [.ref j] S) Q = Q .non (S.set i (.dct (mergeV kvs more))) := by
  show Ev (updateV i j S) Q = _
  unfold updateV
  rw [h, h']
  dsimp only
  rw [if_pos (by simp only [Bool.and_eq_true, decide_eq_true_eq]; exact ⟨hij, hz⟩)]; rfl
theorem recv_dct {S : Store} {m : Bm} {d : Nat} {kvs : List (DKey × Val)} (hm : bmTy m = "dict") (h : S[d]? = some (.dct kvs)) : recvB S m (.ref d) = true := by
  have e : (dicOf S (.ref d)).isSome = true := by
    unfold dicOf
    dsimp only
    rw [h]; rfl
  cases m <;> first | exact e | (exact absurd hm (by decide))
end K16

namespace K16
open PySem L2 Pd

theorem ev_neg1 {S : Store} {Q : Val → Store → Prop} : Ev ((match (Val.int 1) with | .int i => pure (.int (-i)) | _ => stuck : M Val) S) Q = Q (.int (-1)) S := rfl
theorem stepTo_at {lo c : Int} {n k : Nat} : (stepTo lo c n)[k]? = if k < n then some (.int (lo + (k : Nat) * c)) else none := by
  unfold stepTo
  rw [List.getElem?_map]
  by_cases q : k < n
  · rw [if_pos q, List.getElem?_range q]; rfl
  · rw [if_neg q, List.getElem?_eq_none (by simpa using q)]; rfl
theorem atI_nat {α : Type} {l : List α} {i : Nat} {x : α} (h : l[i]? = some x) : L2.atI l (i : Nat) = some x := by
  have hi := (List.getElem?_eq_some_iff.mp h).1
  unfold L2.atI L2.ixN
  rw [if_pos (by omega), if_pos (by omega)]
  simpa using h

theorem needed_ok {k : Nat} {S : Store} {steps : List Stp} {names : List Str} (F : Fine steps) (hn : names.length ≤ 100) :
    Ev (callF T 64 (k + 2) 2 [.tup (steps.map Stp.v), .tup (names.map .str)] S) fun v S' => v = .tup (nds names steps steps.length).2.reverse ∧ Old S S' := by
  have hm := F.many
  (refine ev_call (d := f2) rfl rfl ?_; simp only [f2, evSs, evS, evE, evEs, evO, evK, evI, evD, out_seq, out_then, out_nx, out_rt, out_ite, ev_bind, ev_pure, ev_ofOpt, ev_noExc, ev_alloc, ev_need, ev_ite', List.map, List.replicate, List.length, List.cons_append, List.nil_append, envGet, envSet, envDels, envDel, Option.some.injEq, exists_eq_left', Lit.val])
  rw [ev_srcT]
  refine ev_dset (l := names) (by omega) (fun v => rfl) (fun kvs K hl => ?_)
  refine ⟨rfl, ?_⟩
  rw [ev_len (u := .tup (steps.map Stp.v)) rfl, ev_sub, List.length_map]
  have hr : ∀ (Q : Src → Store → Prop) (S' : Store), Ev (range3V ((steps.length : Int) - 1) (-1) (-1) S') Q = Q (.stat (stepTo ((steps.length : Int) - 1) (-1) steps.length)) S' := by
    intro Q S'
    unfold range3V
    have h62 : ((2 : Int) ^ 62) = 4611686018427387904 := by decide
    rw [if_pos (by simp only [Bool.and_eq_true, decide_eq_true_eq, h62]; exact ⟨⟨⟨⟨trivial, by omega⟩, by omega⟩, by omega⟩, by omega⟩)]
    have e : ((steps.length : Int) - 1 - -1).toNat = steps.length := by omega
    rw [e]; rfl
  show Ev (range3V ((steps.length : Int) - 1) (-1) (-1) _) _
  rw [hr]
  have e0 : (S ++ [Cell.dct kvs]).length = S.length + 1 := by simp
  refine out_loop (xs := stepTo ((steps.length : Int) - 1) (-1) steps.length) (fun i x => x) (fun j env S' => ∃ a b c d e f kvs, env = [some (.tup (steps.map Stp.v)), some (.tup (names.map .str)), some (.ref S.length), some (.ref (S.length + 1)), a, b, c, d, e, f] ∧
    Old S S' ∧ S'[S.length]? = some (.dct kvs) ∧ S'[S.length + 1]? = some (.lst (nds names steps j).2) ∧ Keys kvs (nds names steps j).1 ∧ kvs.length ≤ 100 + 100 * j) rfl (fun j env S' _ => by show some _ = some (Option.map (fun x => x) _); rw [Option.map_id']) (fun j x env S1 hx hJ => ?_) ?_ (fun env S' hJ => ?_)
  · obtain ⟨a, b, c, d, e, f, kvs, rfl, o1, q1, p1, K, hk⟩ := hJ
    rw [stepTo_at] at hx
    split at hx
    · rename_i hj
      have ex := Option.some.inj hx
      subst ex
      have em : (steps.length : Int) - 1 + (j : Nat) * -1 = ((steps.length - 1 - j : Nat) : Int) := by omega
      rw [em]
      obtain ⟨s, hs1⟩ : ∃ s, steps[steps.length - 1 - j]? = some s := ⟨_, List.getElem?_eq_getElem (by omega)⟩
      have hfew := F.few s (List.mem_of_getElem? hs1)
      have hat : L2.atI (steps.map Stp.v) ((steps.length - 1 - j : Nat) : Int) = some s.v := atI_nat (by rw [List.getElem?_map, hs1]; rfl)
      have hnd : nds names steps (j + 1) = nstep (nds names steps j) (steps.length - 1 - j) s := by
        show (match steps[steps.length - 1 - j]? with | some s => nstep (nds names steps j) (steps.length - 1 - j) s | none => nds names steps j) = _
        rw [hs1]
      refine ⟨_, rfl, ?_⟩
      (simp only [evSs, evS, evE, evEs, evO, evK, evI, evD, out_seq, out_then, out_nx, out_rt, out_ite, ev_bind, ev_pure, ev_ofOpt, ev_noExc, ev_alloc, ev_need, ev_ite', List.map, List.replicate, List.length, List.cons_append, List.nil_append, envGet, envSet, envDels, envDel, Option.some.injEq, exists_eq_left', Lit.val])
      rw [ev_idxT hat]
      have hst : starV S1 s.v (lenTs (.cons (.name 6) (.cons (.name 7) (.cons (.name 8) .nil)))) 2 = some ([.str s.w, .str s.o, .ref S1.length], s.xs) := by
        show starV S1 (.tup (.str s.w :: .str s.o :: s.xs)) _ 2 = _
        unfold starV
        dsimp only
        rw [if_pos (by simp [lenTs]; omega)]
        simp [lenTs]
      rw [hst]
      simp only [evTs, evT, out_nx, envGet, envSet, envDels, envDel]
      (simp only [evSs, evS, evE, evEs, evO, evK, evI, evD, out_seq, out_then, out_nx, out_rt, out_ite, ev_bind, ev_pure, ev_ofOpt, ev_noExc, ev_alloc, ev_need, ev_ite', List.map, List.replicate, List.length, List.cons_append, List.nil_append, envGet, envSet, envDels, envDel, Option.some.injEq, exists_eq_left', Lit.val])
      have q2 := snoc_old (x := Cell.lst s.xs) q1
      have p2 := snoc_old (x := Cell.lst s.xs) p1
      have o2 := o1.trans (Old.snoc (x := Cell.lst s.xs))
      rw [ev_in (in_dict q2 K), ev_tb]
      generalize S1 ++ [Cell.lst s.xs] = S2 at q2 p2 o2
      by_cases c : (nds names steps j).1.contains s.o = true
      · rw [if_pos c]
        have hl := nds_len names steps j
        rw [ev_recv (recv_lst rfl p2), ev_append p2 (by show _ < 16777216; omega)]
        have ne1 : S.length ≠ S.length + 1 := by omega
        have q3 : (S2.set (S.length + 1) (.lst ((nds names steps j).2 ++ [.int ((steps.length - 1 - j : Nat) : Int)])))[S.length]? = some (.dct kvs) := by rw [List.getElem?_set_ne ne1.symm]; exact q2
        have p3 : (S2.set (S.length + 1) (.lst ((nds names steps j).2 ++ [.int ((steps.length - 1 - j : Nat) : Int)])))[S.length + 1]? = some (.lst ((nds names steps j).2 ++ [.int ((steps.length - 1 - j : Nat) : Int)])) := set_at p2
        have o3 := o2.set (x := .lst ((nds names steps j).2 ++ [.int ((steps.length - 1 - j : Nat) : Int)])) (Nat.le_add_right S.length 1)
        generalize S2.set (S.length + 1) (.lst ((nds names steps j).2 ++ [.int ((steps.length - 1 - j : Nat) : Int)])) = S3 at q3 p3 o3
        rw [ev_recv (recv_dct rfl q3), ev_idxT hat]
        refine (names_in_ok (k := k) (w := .str s.w) (o := .str s.o) (others := s.xs) (by omega)).imp fun v S4 h4 => ?_
        obtain ⟨rfl, o4⟩ := h4
        rw [ev_srcT, txs_filter]
        have hlen := txs_len s.xs
        refine ev_dset (l := txs s.xs) (i := 9) (env := [some (.tup (steps.map Stp.v)), some (.tup (names.map .str)), some (.ref S.length), some (.ref (S.length + 1)), some (.int ((steps.length - 1 - j : Nat) : Int)), b, some (.str s.w), some (.str s.o), some (.ref S1.length), f]) (by omega) ?_ (fun more K2 hl2 => ?_)
        · intro v; rfl
        have q5 := snoc_old (x := Cell.dct more) (o4.at q3)
        have p5 := snoc_old (x := Cell.dct more) (o4.at p3)
        have n5 : (S4 ++ [Cell.dct more])[S4.length]? = some (.dct more) := snoc_new
        have hlt := (List.getElem?_eq_some_iff.mp (o4.at p3)).1
        rw [ev_update q5 n5 (by omega) (by show _ ≤ 16777216; omega)]
        refine ⟨_, _, _, _, _, _, mergeV kvs more, rfl, ((o3.trans o4).trans Old.snoc).set (Nat.le_refl _), set_at q5, ?_, ?_, ?_⟩
        · rw [List.getElem?_set_ne ne1, p5, hnd]
          unfold nstep
          rw [if_pos c]
        · rw [hnd]
          unfold nstep
          rw [if_pos c]
          exact K.merge K2
        · have := merge_len (more := more) (kvs := kvs)
          omega
      · rw [if_neg c]
        refine ⟨_, _, _, _, _, _, kvs, rfl, o2, q2, ?_, ?_, by omega⟩
        · rw [hnd]; unfold nstep; rw [if_neg c]; exact p2
        · rw [hnd]; unfold nstep; rw [if_neg c]; exact K
    · cases hx
  · refine ⟨none, none, none, none, none, none, kvs, by rw [e0], (Old.snoc).trans Old.snoc, snoc_old snoc_new, ?_, K, by omega⟩
    rw [← e0, snoc_new]; rfl
  · obtain ⟨a, b, c, d, e, f, kvs, rfl, o1, q1, p1, K, hk⟩ := hJ
    have el : (stepTo ((steps.length : Int) - 1) (-1) steps.length).length = steps.length := by simp [stepTo]
    rw [el] at p1
    refine ⟨_, rfl, ?_⟩
    have hrev : ∀ (Q : Val → Store → Prop), Ev (revV (.ref (S.length + 1)) S') Q = Q (.ref S'.length) (S' ++ [.lst (nds names steps steps.length).2.reverse]) := by
      intro Q
      show Ev (revLst (S.length + 1) S') Q = _
      unfold revLst
      rw [p1]; rfl
    rw [hrev, ev_tuple (lstOf_at snoc_new)]
    exact ⟨rfl, (o1.trans Old.snoc).sweep⟩
end K16

namespace K16
open PySem L2 Pd

/-- names stand but once, and each step speaks of earlier ones -/
structure Good (steps : List Stp) : Prop where
  nd : (steps.map Stp.o).Nodup
  back : ∀ (i : Nat) (s : Stp), steps[i]? = some s → ∀ x ∈ txs s.xs, ∃ j t, j < i ∧ steps[j]? = some t ∧ t.o = x
theorem own_inj {steps : List Stp} (G : Good steps) {i j : Nat} {s t : Stp} (h : steps[i]? = some s) (h' : steps[j]? = some t) (e : s.o = t.o) : i = j := by
  have hi := (List.getElem?_eq_some_iff.mp h)
  have hj := (List.getElem?_eq_some_iff.mp h')
  obtain ⟨hi, ei⟩ := hi
  obtain ⟨hj, ej⟩ := hj
  have h1 : i < (steps.map Stp.o).length := by simpa using hi
  have h2 : j < (steps.map Stp.o).length := by simpa using hj
  exact (List.getElem_inj (h₀ := h1) (h₁ := h2) G.nd).mp (by simp [ei, ej, e])
/-- later turns don't ask for step i again -/
theorem nds_stay {steps : List Stp} (G : Good steps) (names : List Str) {i : Nat} {s : Stp} (h : steps[i]? = some s) : ∀ d, steps.length - 1 - i + d ≤ steps.length → (nds names steps (steps.length - 1 - i + d)).1.contains s.o = (nds names steps (steps.length - 1 - i)).1.contains s.o := by
  have hi := (List.getElem?_eq_some_iff.mp h).1
  intro d
  induction d with
  | zero => intro _; rfl
  | succ d ih =>
    intro hd
    rw [← ih (by omega)]
    show (match steps[steps.length - 1 - (steps.length - 1 - i + d)]? with | some t => nstep (nds names steps (steps.length - 1 - i + d)) _ t | none => _).1.contains s.o = _
    obtain ⟨t, ht⟩ : ∃ t, steps[steps.length - 1 - (steps.length - 1 - i + d)]? = some t := ⟨_, List.getElem?_eq_getElem (by omega)⟩
    rw [ht]
    dsimp only
    unfold nstep
    split
    · have no : (txs t.xs).contains s.o = false := by
        rw [Bool.eq_false_iff]
        intro hc
        obtain ⟨j, u, hj, hu, e⟩ := G.back _ t ht s.o (List.contains_iff_mem.mp hc)
        have := own_inj G hu h e
        omega
      show ((nds names steps (steps.length - 1 - i + d)).1 ++ txs t.xs).contains s.o = _
      rw [List.contains_append, no, Bool.or_false]
    · rfl
/-- what is asked for in the end -/
def asked (names : List Str) (steps : List Stp) (i : Nat) : Bool := match steps[i]? with
  | some s => (nds names steps steps.length).1.contains s.o
  | none => false
theorem nds_found {steps : List Stp} (G : Good steps) (names : List Str) : ∀ j, j ≤ steps.length → (nds names steps j).2 = (((List.range j).map fun t => steps.length - 1 - t).filter (asked names steps)).map fun i => Val.int (i : Nat)
  | 0, _ => rfl
  | j + 1, h => by
    have ih := nds_found G names j (by omega)
    obtain ⟨s, hs⟩ : ∃ s, steps[steps.length - 1 - j]? = some s := ⟨_, List.getElem?_eq_getElem (by omega)⟩
    have e1 : nds names steps (j + 1) = nstep (nds names steps j) (steps.length - 1 - j) s := by
      show (match steps[steps.length - 1 - j]? with | some s => nstep (nds names steps j) (steps.length - 1 - j) s | none => nds names steps j) = _
      rw [hs]
    have e2 : asked names steps (steps.length - 1 - j) = (nds names steps j).1.contains s.o := by
      unfold asked
      rw [hs]
      have := nds_stay G names hs (steps.length - j) (by omega)
      rw [show steps.length - 1 - (steps.length - 1 - j) = j by omega, show j + (steps.length - j) = steps.length by omega] at this
      exact this
    rw [e1, List.range_succ, List.map_append, List.filter_append, List.map_append, ← ih]
    show (nstep _ _ _).2 = _ ++ ([steps.length - 1 - j].filter (asked names steps)).map _
    rw [List.filter_cons, e2]
    unfold nstep
    by_cases c : (nds names steps j).1.contains s.o = true
    · rw [if_pos c, if_pos c]; rfl
    · rw [if_neg c, if_neg c]; simp
/-- the answer of both -/
def want (names : List Str) (steps : List Stp) : List Val := ((List.range steps.length).filter (asked names steps)).map fun i => Val.int (i : Nat)
theorem range_back (n : Nat) : (List.range n).map (fun t => n - 1 - t) = (List.range n).reverse := by
  apply List.ext_getElem
  · simp
  · intro i h1 h2
    simp [List.getElem_reverse]
theorem nds_want {steps : List Stp} (G : Good steps) (names : List Str) : (nds names steps steps.length).2.reverse = want names steps := by
  rw [nds_found G names _ (Nat.le_refl _), range_back, List.filter_reverse, List.map_reverse, List.reverse_reverse]
  rfl
end K16

namespace K16
open PySem L2 Pd

theorem nds_len1 {steps : List Stp} (F : Fine steps) (names : List Str) : ∀ j, (nds names steps j).1.length ≤ names.length + 100 * j
  | 0 => by simp [nds]
  | j + 1 => by
    have ih := nds_len1 F names j
    unfold nds
    cases e : steps[steps.length - 1 - j]? with
    | none => dsimp only; omega
    | some s =>
      dsimp only
      have := F.few s (List.mem_of_getElem? e)
      have := txs_len s.xs
      unfold nstep
      split
      · rw [List.length_append]; omega
      · omega
theorem ev_list {S : Store} {Q : Val → Store → Prop} {u : Val} {l : List Val} (h : seqOf S u = some l) : Ev (biV .list [u] S) Q = Q (.ref S.length) (S ++ [.lst l]) := by
  show Ev (lstF u S) Q = _
  unfold lstF
  rw [h]; rfl
theorem law_needed_ok {k : Nat} {S : Store} {steps : List Stp} {names : List Str} {u : Val} (F : Fine steps) (G : Good steps) (hn : names.length ≤ 100) (hu : seqOf S u = some (names.map .str)) :
    Ev (callF T 64 (k + 1) 14 [.tup (steps.map Stp.v), u] S) fun v S' => ∃ r, v = .ref r ∧ S.length ≤ r ∧ S'[r]? = some (.lst (want names steps)) ∧ Old S S' := by
  have hm := F.many
  (refine ev_call (d := f14) rfl rfl ?_; simp only [f14, evSs, evS, evE, evEs, evO, evK, evI, evD, out_seq, out_then, out_nx, out_rt, out_ite, ev_bind, ev_pure, ev_ofOpt, ev_noExc, ev_alloc, ev_need, ev_ite', List.map, List.replicate, List.length, List.cons_append, List.nil_append, envGet, envSet, envDels, envDel, Option.some.injEq, exists_eq_left', Lit.val])
  rw [ev_list hu]
  show Ev ((pure (.tup (steps.map Stp.v).reverse) : M Val) _) _
  rw [ev_pure, ev_srcT]
  refine out_loop (xs := (steps.map Stp.v).reverse) (fun i x => x) (fun j env S' => ∃ a b c r, env = [some (.tup (steps.map Stp.v)), some u, some (.ref r), a, b, c] ∧
    Old S S' ∧ S.length ≤ r ∧ S'[r]? = some (.lst ((nds names steps j).1.map .str))) rfl (fun j env S' _ => by show some _ = some (Option.map (fun x => x) _); rw [Option.map_id']) (fun j x env S1 hx hJ => ?_) ?_ (fun env S' hJ => ?_)
  · obtain ⟨a, b, c, r, rfl, o1, hr, p1⟩ := hJ
    have hj : j < steps.length := by have := (List.getElem?_eq_some_iff.mp hx).1; simpa using this
    obtain ⟨s, hs1⟩ : ∃ s, steps[steps.length - 1 - j]? = some s := ⟨_, List.getElem?_eq_getElem (by omega)⟩
    have ex : x = s.v := by
      rw [List.getElem?_reverse (by simpa using hj), List.getElem?_map, List.length_map, hs1] at hx
      exact (Option.some.inj hx).symm
    subst ex
    have hfew := F.few s (List.mem_of_getElem? hs1)
    have hnd : nds names steps (j + 1) = nstep (nds names steps j) (steps.length - 1 - j) s := by
      show (match steps[steps.length - 1 - j]? with | some s => nstep (nds names steps j) (steps.length - 1 - j) s | none => nds names steps j) = _
      rw [hs1]
    refine ⟨_, rfl, ?_⟩
    (simp only [evSs, evS, evE, evEs, evO, evK, evI, evD, out_seq, out_then, out_nx, out_rt, out_ite, ev_bind, ev_pure, ev_ofOpt, ev_noExc, ev_alloc, ev_need, ev_ite', List.map, List.replicate, List.length, List.cons_append, List.nil_append, envGet, envSet, envDels, envDel, Option.some.injEq, exists_eq_left', Lit.val])
    rw [show s.v = .tup (.str s.w :: .str s.o :: s.xs) from rfl, ev_idxT (v := .str s.o) at_pair, ev_in (in_strs p1), ev_tb]
    by_cases c' : (nds names steps j).1.contains s.o = true
    · rw [if_pos c']
      have hsl : ∀ (Q : Val → Store → Prop), Ev (slcV (.tup (.str s.w :: .str s.o :: s.xs)) (some 2) none S1) Q = Q (.tup s.xs) S1 := by
        intro Q
        show Ev ((pure (.tup (cutL (.str s.w :: .str s.o :: s.xs) (some 2) none)) : M Val) S1) Q = _
        rw [cut2]; rfl
      rw [hsl, ev_srcT]
      refine ev_lc (xs := s.xs) (fun _ x => x) (fun j acc S' => S' = S1 ∧ acc = (s.xs.take j).filter isS) rfl (fun j acc S' _ => by show some _ = some (Option.map (fun x => x) _); rw [Option.map_id']) (fun j x acc S' hx ha hJ => ?_) (by show s.xs.length ≤ 16777216; omega) ⟨rfl, by simp⟩ (fun l S' hJ _ => ?_)
      · obtain ⟨rfl, rfl⟩ := hJ
        refine ⟨_, rfl, ?_⟩
        (simp only [evSs, evS, evE, evEs, evO, evK, evI, evD, out_seq, out_then, out_nx, out_rt, out_ite, ev_bind, ev_pure, ev_ofOpt, ev_noExc, ev_alloc, ev_need, ev_ite', List.map, List.replicate, List.length, List.cons_append, List.nil_append, envGet, envSet, envDels, envDel, Option.some.injEq, exists_eq_left', Lit.val])
        rw [ev_isin, ev_tb, isS_ty]
        have ht := filter_take isS hx
        cases hS : isS x with
        | true =>
          rw [if_pos rfl]
          rw [hS] at ht
          exact ⟨rfl, by rw [ht]; rfl⟩
        | false =>
          rw [if_neg Bool.false_ne_true]
          rw [hS] at ht
          exact ⟨rfl, by rw [ht]; simp⟩
      · obtain ⟨rfl, rfl⟩ := hJ
        rw [List.take_length, txs_filter]
        have p2 := snoc_old (x := Cell.lst ((txs s.xs).map .str)) p1
        have n2 : (S' ++ [Cell.lst ((txs s.xs).map .str)])[S'.length]? = some (.lst ((txs s.xs).map .str)) := snoc_new
        have l1 := nds_len1 F names j
        have l2 := txs_len s.xs
        rw [ev_catL p2 n2 (by rw [List.length_map, List.length_map]; show _ ≤ 16777216; omega)]
        refine ⟨_, _, _, _, rfl, (o1.trans Old.snoc).trans Old.snoc, ?_, ?_⟩
        · have := o1.1
          rw [List.length_append]
          omega
        · rw [snoc_new, hnd]
          unfold nstep
          rw [if_pos c', List.map_append]
    · rw [if_neg c']
      refine ⟨_, _, _, r, rfl, o1, hr, ?_⟩
      rw [hnd]; unfold nstep; rw [if_neg c']; exact p1
  · exact ⟨none, none, none, S.length, rfl, Old.snoc, Nat.le_refl _, snoc_new⟩
  · obtain ⟨a, b, c, r, rfl, o1, hr, p1⟩ := hJ
    rw [List.length_reverse, List.length_map] at p1
    (simp only [evSs, evS, evE, evEs, evO, evK, evI, evD, out_seq, out_then, out_nx, out_rt, out_ite, ev_bind, ev_pure, ev_ofOpt, ev_noExc, ev_alloc, ev_need, ev_ite', List.map, List.replicate, List.length, List.cons_append, List.nil_append, envGet, envSet, envDels, envDel, Option.some.injEq, exists_eq_left', Lit.val])
    rw [ev_enumT]
    refine ev_lc (xs := steps.map Stp.v) (fun i x => .tup [.int (i : Nat), x]) (fun j acc S2 => S2 = S' ∧ acc = ((List.range j).filter (asked names steps)).map fun i => Val.int (i : Nat)) rfl (fun j acc S2 _ => rfl) (fun j x acc S2 hx ha hJ => ?_) (by rw [List.length_map]; show steps.length ≤ 16777216; omega) ⟨rfl, rfl⟩ (fun l S2 hJ _ => ?_)
    · obtain ⟨rfl, rfl⟩ := hJ
      obtain ⟨s, hs1, rfl⟩ : ∃ s, steps[j]? = some s ∧ s.v = x := by
        rw [List.getElem?_map] at hx
        exact Option.map_eq_some_iff.mp hx
      refine ⟨_, rfl, ?_⟩
      (simp only [evSs, evS, evE, evEs, evO, evK, evI, evD, out_seq, out_then, out_nx, out_rt, out_ite, ev_bind, ev_pure, ev_ofOpt, ev_noExc, ev_alloc, ev_need, ev_ite', List.map, List.replicate, List.length, List.cons_append, List.nil_append, envGet, envSet, envDels, envDel, Option.some.injEq, exists_eq_left', Lit.val])
      rw [show s.v = .tup (.str s.w :: .str s.o :: s.xs) from rfl, ev_idxT (v := .str s.o) at_pair, ev_in (in_strs p1), ev_tb]
      have ea : asked names steps j = (nds names steps steps.length).1.contains s.o := by
        unfold asked
        rw [hs1]
      rw [← ea, List.range_succ, List.filter_append, List.map_append]
      show if asked names steps j = true then _ = _ ∧ _ = _ ++ ([j].filter _).map _ else _ = _ ∧ _ = _ ++ ([j].filter _).map _
      rw [List.filter_cons]
      by_cases c' : asked names steps j = true
      · rw [if_pos c', if_pos c']
        exact ⟨rfl, rfl⟩
      · rw [if_neg c', if_neg c']
        exact ⟨rfl, by simp⟩
    · obtain ⟨rfl, rfl⟩ := hJ
      rw [List.length_map]
      have := o1.1
      rw [swept_new this]
      exact ⟨_, rfl, this, snoc_new, o1.trans Old.snoc⟩
end K16

namespace K16
open PySem L2 Pd

theorem ev_repr {S : Store} {Q : Val → Store → Prop} {u : Val} {d : PyData} (hd : dat S 60 u = some d) (hl : PyData.layable0 d = true) (hp : d.depth ≤ 60) (hi : d.intsShort 13 = true) (hs : d.showable = true) : Ev (biV .repr [u] S) Q = Q (.str d.shown) S := by
  show Ev (reprV u S) Q = _
  unfold reprV
  rw [hd]
  dsimp only
  have h1 := PyProof.Rows.shown_le13 hl hi
  have h2 := PyData.hasDict_of_layable hl
  rw [if_pos (by simp only [Bool.and_eq_true, decide_eq_true_eq, Bool.not_eq_true']; exact ⟨⟨⟨hs, by show _ ≤ 16777216; omega⟩, hp⟩, h2⟩)]; rfl
/-- a value that shows in few signs -/
structure Short (v : Val) (n : Nat) : Prop where
  sm : sim v = true
  dp : vdep v ≤ 5
  wt : (toD v).weight ≤ n
  is : (toD v).intsShort 13 = true
  sh : (toD v).showable = true
theorem shorts {vs : List Val} {n : Nat} (h : ∀ v ∈ vs, Short v n) : sims vs = true ∧ vdeps vs ≤ 5 ∧ PyData.weightAll (toDs vs) ≤ vs.length * (n + 1) ∧ PyData.intsShortAll 13 (toDs vs) = true ∧ PyData.showableAll (toDs vs) = true := by
  induction vs with
  | nil => simp [sims, vdeps, toDs, PyData.weightAll, PyData.intsShortAll, PyData.showableAll]
  | cons v vs ih =>
    obtain ⟨a, b, c, d, e⟩ := ih fun x hx => h x (List.mem_cons_of_mem _ hx)
    have hv := h v List.mem_cons_self
    have h2 := hv.dp
    have h3 := hv.wt
    refine ⟨by simp [sims, hv.sm, a], by simp only [vdeps]; omega, ?_, by simp [toDs, PyData.intsShortAll, hv.is, d], by simp [toDs, PyData.showableAll, hv.sh, e]⟩
    simp only [toDs, PyData.weightAll, List.length_cons]
    rw [Nat.succ_mul]
    omega
/-- a tuple of short ones shown -/
theorem ev_reprT {S : Store} {Q : Val → Store → Prop} {vs : List Val} {n : Nat} (h : ∀ v ∈ vs, Short v n) (hz : vs.length * (n + 1) ≤ 2 ^ 20) : Ev (biV .repr [.tup vs] S) Q = Q (.str (toD (.tup vs)).shown) S := by
  obtain ⟨a, b, c, d, e⟩ := shorts h
  obtain ⟨l1, l2⟩ := lays_sim vs a
  refine ev_repr (dat_sim (.tup vs) 60 a (by show vdeps vs + 1 ≤ 60; omega)) ?_ ?_ ?_ ?_
  · show (PyData.canLay0 _ && decide (PyData.depth _ ≤ 64) && decide (PyData.weight _ ≤ 2 ^ 20)) = true
    simp only [toD, PyData.canLay0, PyData.depth, PyData.weight, l1, l2, Bool.and_eq_true, decide_eq_true_eq]
    exact ⟨⟨trivial, by omega⟩, by omega⟩
  · simp only [toD, PyData.depth, l2]; omega
  · simp only [toD, PyData.intsShort]; exact d
  · simp only [toD, PyData.showable]; exact e
theorem short_str {x : Str} {n : Nat} (h1 : PyData.strOk x = true) (h2 : x.cps.size ≤ n) : Short (.str x) n := ⟨h1, by simp [vdep], h2, rfl, rfl⟩
theorem short_nat {i : Nat} (h : i < 100) : Short (.int (i : Nat)) 8 := by
  refine ⟨rfl, by simp [vdep], ?_, ?_, ?_⟩
  · simp only [toD, PyData.weight]
    split
    · omega
    · have : (i : Int).natAbs = i := by omega
      rw [this]
      have : i.log2 < 7 := (Nat.log2_lt (by
        rename_i hne
        intro z
        subst z
        exact hne rfl)).mpr (by omega)
      omega
  · have key : ∀ j : Fin 100, decide ((PyData.shown (.int (j.val : Nat))).length ≤ 13) = true := by decide +kernel
    simp only [toD, PyData.intsShort]
    exact key ⟨i, h⟩
  · simp only [toD, PyData.showable, decide_eq_true_eq]
    have : (i : Int).natAbs = i := by omega
    rw [this]
    exact Nat.lt_of_le_of_lt (Nat.log2_le_self i) (by omega)
/-- steps that show in few signs -/
structure Brief (steps : List Stp) : Prop where
  w : ∀ s ∈ steps, Short (.str s.w) 100 ∧ Short (.str s.o) 100
  xs : ∀ s ∈ steps, ∀ x ∈ s.xs, Short x 100 ∧ vdep x = 0
theorem short_tup {vs : List Val} {n m : Nat} (h : ∀ v ∈ vs, Short v n ∧ vdep v ≤ 4) (hm : vs.length * (n + 1) ≤ m) : Short (.tup vs) m := by
  obtain ⟨a, b, c, d, e⟩ := shorts fun v hv => (h v hv).1
  have hd := vdeps_of fun v hv => (h v hv).2
  exact ⟨a, by show vdeps vs + 1 ≤ 5; omega, by simp only [toD, PyData.weight]; omega, by simp only [toD, PyData.intsShort]; exact d, by simp only [toD, PyData.showable]; exact e⟩
end K16

namespace K16
open PySem L2 Pd

theorem Fr.at {S S' : Store} {d c i : Nat} {x : Cell} (o : Fr S S' d c) (h : S[i]? = some x) (h1 : i ≠ d) (h2 : i ≠ c) : S'[i]? = some x := (o.2 i (List.getElem?_eq_some_iff.mp h).1 h1 h2).trans h
theorem Old.fr {S S' : Store} (o : Old S S') (d c : Nat) : Fr S S' d c := ⟨o.1, fun i h _ _ => o.2 i h⟩
theorem Deck.old {S S' : Store} {d c m : Nat} (D : Deck S d c m) (o : Old S S') : Deck S' d c m := by
  obtain ⟨⟨a, b, l, e1, e2, e3⟩, ne⟩ := D
  exact ⟨⟨a, b, l, o.at e1, o.at e2, e3⟩, ne⟩
theorem Deck.up {S : Store} {d c m m' : Nat} (D : Deck S d c m) (h : m ≤ m') : Deck S d c m' := by
  obtain ⟨⟨a, b, l, e1, e2, e3, e4, e5⟩, ne⟩ := D
  exact ⟨⟨a, b, l, e1, e2, e3, e4, by omega⟩, ne⟩
/-- one of a list -/
theorem pick_ok {k : Nat} {S : Store} {d c m : Nat} {r : Nat} {xs : List Val} (D : Deck S d c m) (hm : m < 2 ^ 60) (h : S[r]? = some (.lst xs)) (h1 : r ≠ d) (h2 : r ≠ c) (hne : xs ≠ []) (hz : xs.length ≤ 1000) :
    Ev (callF T 64 (k + 2) 5 [.ref d, .ref r] S) fun v S' => v ∈ xs ∧ Deck S' d c (m + 1) ∧ Fr S S' d c := by
  have hlt := D.lt
  have hpos := List.length_pos_iff.mpr hne
  (refine ev_call (d := f5) rfl rfl ?_; simp only [f5, evSs, evS, evE, evEs, evO, evK, evI, evD, out_seq, out_then, out_nx, out_rt, out_ite, ev_bind, ev_pure, ev_ofOpt, ev_noExc, ev_alloc, ev_need, ev_ite', List.map, List.replicate, List.length, List.cons_append, List.nil_append, envGet, envSet, envDels, envDel, Option.some.injEq, exists_eq_left', Lit.val])
  rw [ev_len (seqOf_at h)]
  refine (draw_ok (k := k) D hm (by omega) (by omega)).imp fun v S1 h3 => ?_
  obtain ⟨z, rfl, z0, z1, D1, F1⟩ := h3
  have hr := F1.at h h1 h2
  obtain ⟨n, rfl⟩ : ∃ n : Nat, z = n := ⟨z.toNat, by omega⟩
  have hn : n < xs.length := by omega
  rw [ev_idxL hr (atI_nat (List.getElem?_eq_getElem hn))]
  exact ⟨List.getElem_mem hn, D1.sweep hlt.1 hlt.2, F1.sweep⟩
theorem at_one {a b : Val} {r : List Val} : L2.atI (a :: b :: r) 1 = some b := at_pair
theorem want_short (names : List Str) {steps : List Stp} (F : Fine steps) : (∀ v ∈ want names steps, Short v 8) ∧ (want names steps).length ≤ 100 := by
  have hm := F.many
  constructor
  · intro v hv
    unfold want at hv
    obtain ⟨i, hi, rfl⟩ := List.mem_map.mp hv
    have := List.mem_range.mp (List.mem_filter.mp hi).1
    exact short_nat (by omega)
  · unfold want
    rw [List.length_map]
    have := List.length_filter_le (asked names steps) (List.range steps.length)
    rw [List.length_range] at this
    omega
theorem hs_short (name : Str) {steps : List Stp} (F : Fine steps) : ∀ k, k ≤ steps.length → ∀ v ∈ (hs name steps k).2, Short v 8
  | 0, _, v, hv => by simp [hs] at hv
  | k + 1, h, v, hv => by
    have ih := hs_short name F k (by omega)
    have hm := F.many
    unfold hs at hv
    cases e : steps[k]? with
    | none => rw [e] at hv; exact ih v hv
    | some s =>
      rw [e] at hv
      dsimp only at hv
      unfold hstep at hv
      split at hv
      · rcases List.mem_append.mp hv with hv | hv
        · exact ih v hv
        · have : v = .int (k : Nat) := by simpa using hv
          rw [this]
          exact short_nat (by omega)
      · exact ih v hv
theorem steps_short {steps : List Stp} (F : Fine steps) (B : Brief steps) : (∀ v ∈ steps.map Stp.v, Short v 10302) := by
  intro v hv
  obtain ⟨s, hs, rfl⟩ := List.mem_map.mp hv
  have hf := F.few s hs
  have hw := B.w s hs
  have hx := B.xs s hs
  refine short_tup (vs := .str s.w :: .str s.o :: s.xs) (n := 100) (fun v hv => ?_) (by simp only [List.length_cons]; omega)
  rcases List.mem_cons.mp hv with rfl | hv
  · exact ⟨hw.1, by simp [vdep]⟩
  · rcases List.mem_cons.mp hv with rfl | hv
    · exact ⟨hw.2, by simp [vdep]⟩
    · exact ⟨(hx v hv).1, by rw [(hx v hv).2]; omega⟩
theorem nds_none (steps : List Stp) : ∀ j, (nds [] steps j).1 = []
  | 0 => rfl
  | j + 1 => by
    have ih := nds_none steps j
    unfold nds
    cases e : steps[steps.length - 1 - j]? with
    | none => exact ih
    | some s =>
      dsimp only
      unfold nstep
      rw [ih, if_neg (by simp)]
      exact ih
theorem want_none (steps : List Stp) : want [] steps = [] := by
  unfold want
  have : (List.range steps.length).filter (asked [] steps) = [] := by
    rw [List.filter_eq_nil_iff]
    intro i _
    unfold asked
    cases e : steps[i]? with
    | none => simp
    | some s => dsimp only; rw [nds_none]; simp
  rw [this]
  rfl
theorem law_right_ok {k : Nat} {S : Store} {d c m : Nat} {steps : List Stp} (D : Deck S d c m) (hm : m < 2 ^ 50) (F : Fine steps) (P : Plain steps) (G : Good steps) (B : Brief steps) (h2 : 0 < steps.length) :
    Ev (callF T 64 (k + 4) 15 [.ref d, .tup (steps.map Stp.v)] S) fun v S' => v = .bl true ∧ Deck S' d c (m + 30) ∧ Fr S S' d c := by
  have hlt := D.lt
  have hmany := F.many
  have hss := steps_short F B
  (refine ev_call (d := f15) rfl rfl ?_; simp only [f15, evSs, evS, evE, evEs, evO, evK, evI, evD, out_seq, out_then, out_nx, out_rt, out_ite, ev_bind, ev_pure, ev_ofOpt, ev_noExc, ev_alloc, ev_need, ev_ite', List.map, List.replicate, List.length, List.cons_append, List.nil_append, envGet, envSet, envDels, envDel, Option.some.injEq, exists_eq_left', Lit.val])
  rw [ev_reprT hss (by rw [List.length_map]; omega), ev_srcT]
  refine ev_lc (xs := steps.map Stp.v) (fun _ x => x) (fun j acc S' => S' = S ∧ acc = (steps.take j).map fun s => Val.str s.o) rfl (fun j acc S' _ => by show some _ = some (Option.map (fun x => x) _); rw [Option.map_id']) (fun j x acc S' hx ha hJ => ?_) (by rw [List.length_map]; show _ ≤ 16777216; omega) ⟨rfl, rfl⟩ (fun l S1 hJ _ => ?_)
  · obtain ⟨rfl, rfl⟩ := hJ
    obtain ⟨s, hs1, rfl⟩ : ∃ s, steps[j]? = some s ∧ s.v = x := by
      rw [List.getElem?_map] at hx
      exact Option.map_eq_some_iff.mp hx
    refine ⟨_, rfl, ?_⟩
    (simp only [evSs, evS, evE, evEs, evO, evK, evI, evD, out_seq, out_then, out_nx, out_rt, out_ite, ev_bind, ev_pure, ev_ofOpt, ev_noExc, ev_alloc, ev_need, ev_ite', List.map, List.replicate, List.length, List.cons_append, List.nil_append, envGet, envSet, envDels, envDel, Option.some.injEq, exists_eq_left', Lit.val])
    rw [if_pos trivial, show s.v = .tup (.str s.w :: .str s.o :: s.xs) from rfl, ev_idxT (v := .str s.o) at_pair]
    refine ⟨rfl, ?_⟩
    rw [List.take_succ, hs1]
    simp
  obtain ⟨rfl, rfl⟩ := hJ
  rw [List.length_map, List.take_length]
  generalize hown : (steps.map fun s => Val.str s.o) = owns
  have n1 : (S1 ++ [Cell.lst owns])[S1.length]? = some (.lst owns) := snoc_new
  rw [ev_srcL n1]
  have lo : owns.length = steps.length := by rw [← hown, List.length_map]
  have own_str : ∀ (j : Nat) (x : Val), owns[j]? = some x → ∃ y : Str, x = .str y := by
    intro j x hx
    rw [← hown, List.getElem?_map] at hx
    obtain ⟨s, _, rfl⟩ := Option.map_eq_some_iff.mp hx
    exact ⟨s.o, rfl⟩
  refine out_loop (xs := owns) (fun i x => x) (fun j env S' => ∃ a b e f g h, env = [some (.ref d), some (.tup (steps.map Stp.v)), some (.str (toD (.tup (steps.map Stp.v))).shown), some (.ref S1.length), a, b, e, f, g, h] ∧ Old (S1 ++ [Cell.lst owns]) S') (len_dyn n1) (fun j env S' hJ => by
    obtain ⟨_, _, _, _, _, _, _, o⟩ := hJ
    rw [at_dyn (o.at n1)]
    congr 1
    ) (fun j x env S2 hx hJ => ?_) ?_ (fun env S2 hJ => ?_)
  · obtain ⟨a, b, e, f, g, h, rfl, o1⟩ := hJ
    obtain ⟨y, rfl⟩ := own_str j x hx
    have hw8 := want_short [y] F
    have hs8 := hs_short y F steps.length (Nat.le_refl _)
    have hsl := (hs_len y steps steps.length).1
    refine ⟨_, rfl, ?_⟩
    (simp only [evSs, evS, evE, evEs, evO, evK, evI, evD, out_seq, out_then, out_nx, out_rt, out_ite, ev_bind, ev_pure, ev_ofOpt, ev_noExc, ev_alloc, ev_need, ev_ite', List.map, List.replicate, List.length, List.cons_append, List.nil_append, envGet, envSet, envDels, envDel, Option.some.injEq, exists_eq_left', Lit.val])
    refine (law_hanging_ok (k := k + 2) F P).imp fun v S3 q3 => ?_
    obtain ⟨r, rfl, r0, r1, o3⟩ := q3
    rw [ev_tuple (lstOf_at r1), ev_reprT hs8 (by omega)]
    refine (hanging_ok (k := k + 1) F).imp fun v S4 q4 => ?_
    obtain ⟨rfl, o4⟩ := q4
    rw [ev_reprT hs8 (by omega), ev_neS]
    simp only [decide_true, Bool.not_true, ev_tb, Bool.false_eq_true, if_false]
    refine (hanging_ok (k := k + 1) F).imp fun v S5 q5 => ?_
    obtain ⟨rfl, o5⟩ := q5
    rw [ev_reprT hs8 (by omega), ev_neS]
    simp only [decide_true, Bool.not_true, ev_tb, Bool.false_eq_true, if_false]
    refine ⟨rfl, ?_⟩
    have u5 : seqOf (S5 ++ [Cell.lst [Val.str y]]) (.ref S5.length) = some (([y] : List Str).map .str) := seqOf_at snoc_new
    refine (law_needed_ok (k := k + 2) (names := [y]) F G (by simp) u5).imp fun v S6 q6 => ?_
    obtain ⟨r', rfl, r2, r3, o6⟩ := q6
    rw [ev_tuple (lstOf_at r3), ev_reprT hw8.1 (by omega)]
    refine ⟨rfl, ?_⟩
    show Ev (callF T 64 (k + 3) 2 [.tup (steps.map Stp.v), .tup [.str y]] S6) _
    refine (needed_ok (k := k + 1) (names := [y]) F (by simp)).imp fun v S7 q7 => ?_
    obtain ⟨rfl, o7⟩ := q7
    rw [nds_want G, ev_reprT hw8.1 (by omega), ev_neS]
    simp only [decide_true, Bool.not_true, ev_tb, Bool.false_eq_true, if_false]
    exact ⟨_, _, _, _, _, _, rfl, o1.trans (o3.trans (o4.trans (o5.trans (Old.snoc.trans (o6.trans o7)))))⟩
  · exact ⟨none, none, none, none, none, none, rfl, Old.refl _⟩
  · obtain ⟨a, b, e, f, g, h, rfl, o1⟩ := hJ
    have D2 : Deck S2 d c m := (D.old Old.snoc).old o1
    have l2 := o1.at n1
    have F2 : Fr S1 S2 d c := Old.fr (Old.trans (Old.snoc (x := Cell.lst owns)) o1) d c
    have hrg : ∀ (Q : Src → Store → Prop) (n : Int) (S' : Store), 0 ≤ n → n < 1000 → Ev (rangeV 0 n S') Q = Q (.stat (upTo 0 n.toNat)) S' := by
      intro Q n S' h0 h1
      unfold rangeV
      have h62 : ((2 : Int) ^ 62) = 4611686018427387904 := by decide
      rw [if_pos (by simp only [Bool.and_eq_true, decide_eq_true_eq, h62]; exact ⟨⟨⟨by omega, by omega⟩, by omega⟩, by omega⟩), Int.sub_zero]; rfl
    show Ev (rangeV 0 6 S2) _
    rw [hrg _ 6 S2 (by decide) (by decide)]
    have hd1 : S1.length ≠ d := by omega
    have hc1 : S1.length ≠ c := by omega
    refine out_loop (xs := upTo 0 6) (fun i x => x) (fun j env S' => ∃ a b e f g h, env = [some (.ref d), some (.tup (steps.map Stp.v)), some (.str (toD (.tup (steps.map Stp.v))).shown), some (.ref S1.length), a, b, e, f, g, h] ∧ Deck S' d c (m + 5 * j) ∧ Fr S1 S' d c ∧ S'[S1.length]? = some (.lst owns)) rfl
      (fun j env S' _ => by show some (Pd.upTo 0 6)[j]? = some (Option.map (fun x => x) _); rw [Option.map_id']) (fun j x env S3 hx hJ => ?_) ⟨_, _, _, _, _, _, rfl, D2, F2, l2⟩ (fun env S3 hJ => ?_)
    · obtain ⟨a, b, e, f, g, h, rfl, D3, F3, l3⟩ := hJ
      refine ⟨_, rfl, ?_⟩
      (simp only [evSs, evS, evE, evEs, evO, evK, evI, evD, out_seq, out_then, out_nx, out_rt, out_ite, ev_bind, ev_pure, ev_ofOpt, ev_noExc, ev_alloc, ev_need, ev_ite', List.map, List.replicate, List.length, List.cons_append, List.nil_append, envGet, envSet, envDels, envDel, Option.some.injEq, exists_eq_left', Lit.val])
      have hd3 := D3.lt
      have hj6 : j < 6 := (List.getElem?_eq_some_iff.mp hx).1
      refine (draw_ok (k := k + 2) D3 (by omega) (by decide) (by decide)).imp fun v S4 q4 => ?_
      obtain ⟨z, rfl, z0, z1, D4, F4⟩ := q4
      obtain ⟨n, rfl⟩ : ∃ n : Nat, z = n := ⟨z.toNat, by omega⟩
      rw [ev_add]
      show Ev (rangeV 0 (1 + (n : Int)) S4) _
      rw [hrg _ _ S4 (by omega) (by omega), show ((1 : Int) + (n : Int)).toNat = n + 1 by omega]
      have hul : (Pd.upTo 0 (n + 1)).length = n + 1 := by simp [Pd.upTo]
      refine ev_lc (xs := Pd.upTo 0 (n + 1)) (fun _ x => x) (fun i acc S' => Deck S' d c (m + 5 * j + 1 + i) ∧ Fr S1 S' d c ∧ S'[S1.length]? = some (.lst owns) ∧ ∃ ns : List Str, acc = ns.map .str ∧ ns.length = i) rfl (fun i acc S' _ => by show some (Pd.upTo 0 (n + 1))[i]? = some (Option.map (fun x => x) _); rw [Option.map_id']) (fun i w acc S5 hw ha hJ => ?_) (by rw [hul]; show _ ≤ 16777216; omega) ⟨D4, F3.trans F4, F4.at l3 hd1 hc1, [], rfl, rfl⟩ (fun l S5 hJ _ => ?_)
      · obtain ⟨D5, F5, l5, ns, rfl, hns⟩ := hJ
        have hi : i < n + 1 := hul ▸ (List.getElem?_eq_some_iff.mp hw).1
        refine ⟨_, rfl, ?_⟩
        (simp only [evSs, evS, evE, evEs, evO, evK, evI, evD, out_seq, out_then, out_nx, out_rt, out_ite, ev_bind, ev_pure, ev_ofOpt, ev_noExc, ev_alloc, ev_need, ev_ite', List.map, List.replicate, List.length, List.cons_append, List.nil_append, envGet, envSet, envDels, envDel, Option.some.injEq, exists_eq_left', Lit.val])
        rw [if_pos trivial]
        refine (pick_ok (k := k + 1) D5 (by omega) l5 hd1 hc1 (by intro h0; rw [h0] at lo; simp at lo; omega) (by omega)).imp fun v S6 q6 => ?_
        obtain ⟨hv, D6, F6⟩ := q6
        obtain ⟨t, ht⟩ := List.getElem?_of_mem hv
        obtain ⟨y, rfl⟩ := own_str t v ht
        exact ⟨D6, F5.trans F6, F6.at l5 hd1 hc1, ns ++ [y], by simp, by simp [hns]⟩
      · obtain ⟨D5, F5, l5, ns, rfl, hns⟩ := hJ
        rw [hul] at D5 hns
        rw [ev_tuple (lstOf_at snoc_new)]
        have hw8 := want_short ns F
        refine (needed_ok (k := k + 1) (names := ns) F (by omega)).imp fun v S6 q6 => ?_
        obtain ⟨rfl, o6⟩ := q6
        rw [nds_want G, ev_reprT hw8.1 (by omega)]
        refine (law_needed_ok (k := k + 2) (names := ns) F G (by omega) rfl).imp fun v S7 q7 => ?_
        obtain ⟨r', rfl, r2, r3, o7⟩ := q7
        rw [ev_tuple (lstOf_at r3), ev_reprT hw8.1 (by omega), ev_neS]
        simp only [decide_true, Bool.not_true, ev_tb, Bool.false_eq_true, if_false]
        have o := Old.trans (Old.snoc (x := Cell.lst (ns.map Val.str))) (o6.trans o7)
        exact ⟨_, _, _, _, _, _, rfl, (D5.old o).up (by omega), F5.trans (Old.fr o d c), o.at l5⟩
    · obtain ⟨a, b, e, f, g, h, rfl, D3, F3, l3⟩ := hJ
      (simp only [evSs, evS, evE, evEs, evO, evK, evI, evD, out_seq, out_then, out_nx, out_rt, out_ite, ev_bind, ev_pure, ev_ofOpt, ev_noExc, ev_alloc, ev_need, ev_ite', List.map, List.replicate, List.length, List.cons_append, List.nil_append, envGet, envSet, envDels, envDel, Option.some.injEq, exists_eq_left', Lit.val])
      have hd3 := D3.lt
      have hw0 : want [] steps = [] := want_none steps
      rw [ev_reprT hss (by rw [List.length_map]; omega), ev_eqS, decide_eq_true rfl, ev_tb, if_pos rfl]
      refine ⟨rfl, ?_⟩
      show Ev (callF T 64 (k + 3) 2 [.tup (steps.map Stp.v), .tup (([] : List Str).map .str)] S3) _
      refine (needed_ok (k := k + 1) (names := []) F (by simp)).imp fun v S4 q4 => ?_
      obtain ⟨rfl, o4⟩ := q4
      rw [nds_want G, hw0]
      refine ⟨rfl, ?_⟩
      rw [ev_eq (b := true) (by rfl)]
      exact ⟨rfl, (D3.old o4).sweep hlt.1 hlt.2, (F3.trans (Old.fr o4 d c)).sweep⟩
end K16

namespace K16
open PySem L2 Pd

theorem ev_intB {S : Store} {Q : Val → Store → Prop} : Ev (biV .int [.bl true] S) Q = Q (.int 1) S := rfl
theorem in_tup {S : Store} {known : List Str} {x : Str} : Pd.inV S (.str x) (.tup (known.map .str)) = some (known.contains x) := by
  unfold Pd.inV
  show (if (Pd.flatV (.str x) && (known.map Val.str).all Pd.flatV) = true then _ else _) = _
  have e1 : (known.map Val.str).all Pd.flatV = true := by
    rw [List.all_map]
    simp [Pd.flatV]
  rw [e1]
  show some _ = _
  congr 1
  rw [List.any_map, List.contains_eq_any_beq]
  congr 1
  funext y
  show Pd.flatEq (.str y) (.str x) = _
  show (y == x) = (x == y)
  exact BEq.comm
def Words : List Str := [Str.ofString "free", Str.ofString "on", Str.ofString "round", Str.ofString "meet", Str.ofString "middle", Str.ofString "foot", Str.ofString "mirror", Str.ofString "turn", Str.ofString "other", Str.ofString "line", Str.ofString "line", Str.ofString "along",
  Str.ofString "upright", Str.ofString "circle", Str.ofString "circle", Str.ofString "meet", Str.ofString "cross"]
theorem words_ok {k : Nat} {S : Store} : Ev (callF T 64 (k + 1) 11 [.bl true] S) fun v S' => ∃ r, v = .ref r ∧ S.length ≤ r ∧ S'[r]? = some (.lst (Words.map .str)) ∧ Old S S' := by
  (refine ev_call (d := f11) rfl rfl ?_; simp only [f11, evSs, evS, evE, evEs, evO, evK, evI, evD, out_seq, out_then, out_nx, out_rt, out_ite, ev_bind, ev_pure, ev_ofOpt, ev_noExc, ev_alloc, ev_need, ev_ite', List.map, List.replicate, List.length, List.cons_append, List.nil_append, envGet, envSet, envDels, envDel, Option.some.injEq, exists_eq_left', Lit.val])
  refine ⟨rfl, rfl, ?_⟩
  rw [ev_catL (snoc_old snoc_new) snoc_new (by decide)]
  refine ⟨rfl, ?_⟩
  rw [ev_intB, ev_repL snoc_new (by decide) (by decide) (by decide), ev_catL (snoc_old (snoc_old snoc_new)) snoc_new (by decide)]
  rw [swept_new (by simp)]
  refine ⟨_, rfl, by simp, snoc_new, ?_⟩
  exact Old.trans Old.snoc (Old.trans Old.snoc (Old.trans Old.snoc (Old.trans Old.snoc (Old.trans Old.snoc Old.snoc))))
def Lines : List Str := [Str.ofString "line", Str.ofString "along", Str.ofString "upright"]
def sortOf (w : Str) : Str := if w = Str.ofString "circle" then Str.ofString "C" else if Lines.contains w = true then Str.ofString "L" else Str.ofString "P"
theorem sort_ok {k : Nat} {S : Store} {w : Str} : Ev (callF T 64 (k + 1) 8 [.str w] S) fun v S' => v = .str (sortOf w) ∧ Old S S' := by
  (refine ev_call (d := f8) rfl rfl ?_; simp only [f8, evSs, evS, evE, evEs, evO, evK, evI, evD, out_seq, out_then, out_nx, out_rt, out_ite, ev_bind, ev_pure, ev_ofOpt, ev_noExc, ev_alloc, ev_need, ev_ite', List.map, List.replicate, List.length, List.cons_append, List.nil_append, envGet, envSet, envDels, envDel, Option.some.injEq, exists_eq_left', Lit.val])
  rw [ev_eqS, ev_tb]
  unfold sortOf
  by_cases h : w = Str.ofString "circle"
  · rw [decide_eq_true h, if_pos rfl, if_pos h]
    exact ⟨rfl, (Old.refl S).sweep⟩
  · rw [decide_eq_false h, if_neg (by simp), if_neg h]
    refine ⟨rfl, ?_⟩
    show Ev (cmpV Cop.isIn (.str w) (.tup (Lines.map Val.str)) S) _
    rw [ev_in (in_tup (known := Lines)), ev_tb]
    cases Lines.contains w
    · exact ⟨rfl, (Old.refl S).sweep⟩
    · exact ⟨rfl, (Old.refl S).sweep⟩
def fms1 : List (DKey × Val) := [(.inr (Str.ofString "free"), .str (Str.ofString "")), (.inr (Str.ofString "on"), .str (Str.ofString "L")), (.inr (Str.ofString "round"), .str (Str.ofString "C")), (.inr (Str.ofString "meet"), .str (Str.ofString "LL")), (.inr (Str.ofString "middle"), .str (Str.ofString "PP")), (.inr (Str.ofString "foot"), .str (Str.ofString "PL")), (.inr (Str.ofString "mirror"), .str (Str.ofString "PL"))]
def fms2 : List (DKey × Val) := [(.inr (Str.ofString "turn"), .str (Str.ofString "PPn")), (.inr (Str.ofString "other"), .str (Str.ofString "LCP")), (.inr (Str.ofString "cross"), .str (Str.ofString "LCk")), (.inr (Str.ofString "line"), .str (Str.ofString "PP")), (.inr (Str.ofString "along"), .str (Str.ofString "PL"))]
def fms3 : List (DKey × Val) := [(.inr (Str.ofString "upright"), .str (Str.ofString "PL")), (.inr (Str.ofString "circle"), .str (Str.ofString "PP"))]
def fms : List (DKey × Val) := mergeV (mergeV (mergeV [] fms1) (mergeV [] fms2)) (mergeV [] fms3)
theorem ev_key {S : Store} {Q : List (DKey × Val) → Store → Prop} {x : Str} {v : Val} {r : List (DKey × Val)} : Ev ((match keyOf (.str x) with | some q => (pure ((q, v) :: r) : M (List (DKey × Val))) | none => stuck) S) Q = Q ((.inr x, v) :: r) S := rfl
theorem forms_ok {k : Nat} {S : Store} : Ev (callF T 64 (k + 1) 7 [] S) fun v S' => ∃ r, v = .ref r ∧ S.length ≤ r ∧ S'[r]? = some (.dct fms) ∧ Old S S' := by
  (refine ev_call (d := f7) rfl rfl ?_; simp only [f7, evSs, evS, evE, evEs, evO, evK, evI, evD, out_seq, out_then, out_nx, out_rt, out_ite, ev_bind, ev_pure, ev_ofOpt, ev_noExc, ev_alloc, ev_need, ev_ite', List.map, List.replicate, List.length, List.cons_append, List.nil_append, envGet, envSet, envDels, envDel, Option.some.injEq, exists_eq_left', Lit.val])
  show Ev (recv Bm.update (Val.ref S.length) (S ++ [Cell.dct (mergeV [] fms1)])) _
  rw [ev_recv (recv_dct rfl snoc_new)]
  show Ev (bmV Bm.update (Val.ref S.length) [.ref (S ++ [Cell.dct (mergeV [] fms1)]).length] (S ++ [Cell.dct (mergeV [] fms1)] ++ [Cell.dct (mergeV [] fms2)])) _
  rw [ev_update (snoc_old snoc_new) snoc_new (by simp) (by decide)]
  show Ev (recv Bm.update (Val.ref S.length) (((S ++ [Cell.dct (mergeV [] fms1)]) ++ [Cell.dct (mergeV [] fms2)]).set S.length (.dct (mergeV (mergeV [] fms1) (mergeV [] fms2))))) _
  have h1 : (((S ++ [Cell.dct (mergeV [] fms1)]) ++ [Cell.dct (mergeV [] fms2)]).set S.length (.dct (mergeV (mergeV [] fms1) (mergeV [] fms2))))[S.length]? = some (.dct (mergeV (mergeV [] fms1) (mergeV [] fms2))) := set_at (snoc_old snoc_new)
  have o1 : Old S (((S ++ [Cell.dct (mergeV [] fms1)]) ++ [Cell.dct (mergeV [] fms2)]).set S.length (.dct (mergeV (mergeV [] fms1) (mergeV [] fms2)))) := (Old.trans Old.snoc Old.snoc).set (Nat.le_refl _)
  generalize (((S ++ [Cell.dct (mergeV [] fms1)]) ++ [Cell.dct (mergeV [] fms2)]).set S.length (.dct (mergeV (mergeV [] fms1) (mergeV [] fms2)))) = S1 at h1 o1
  have hlt := (List.getElem?_eq_some_iff.mp h1).1
  rw [ev_recv (recv_dct rfl h1)]
  show Ev (bmV Bm.update (Val.ref S.length) [.ref S1.length] (S1 ++ [Cell.dct (mergeV [] fms3)])) _
  rw [ev_update (snoc_old h1) snoc_new (by omega) (by decide), swept_new (Nat.le_refl _)]
  exact ⟨_, rfl, Nat.le_refl _, set_at (snoc_old h1), (o1.trans Old.snoc).set (Nat.le_refl _)⟩
end K16

namespace K16
open PySem L2 Pd

theorem at_zero {a : Val} {r : List Val} : L2.atI (a :: r) 0 = some a := by
  unfold L2.atI L2.ixN
  simp
theorem slc_tup {S : Store} {Q : Val → Store → Prop} {xs : List Val} {l h : Option Int} : Ev (slcV (.tup xs) l h S) Q = Q (.tup (cutL xs l h)) S := rfl
def thr (w : Str) (a b : Val) : Val := if w = Str.ofString "line" then a else if w = Str.ofString "along" ∨ w = Str.ofString "upright" then b else .tup []
def tdic (a b : Val) : List (DKey × Val) := [(.inr (Str.ofString "line"), a), (.inr (Str.ofString "along"), b), (.inr (Str.ofString "upright"), b)]
theorem tdic_eq {a b : Val} : mergeV [] (tdic a b) = tdic a b := rfl
theorem ev_thr {S : Store} {Q : Val → Store → Prop} {i : Nat} {w : Str} {a b : Val} (h : S[i]? = some (.dct (tdic a b))) : Ev (bmV .get2 (.ref i) [.str w, .tup []] S) Q = Q (thr w a b) S := by
  show Ev (getV (.ref i) (.str w) (.tup []) S) Q = _
  unfold getV
  have e : dicOf S (.ref i) = some (tdic a b) := by
    unfold dicOf
    dsimp only
    rw [h]
  rw [e]
  show Q ((lookV (tdic a b) (.inr w)).getD (.tup [])) S = _
  congr 1
  unfold tdic thr
  simp only [lookV, Sum.inr.injEq]
  by_cases h1 : w = Str.ofString "line"
  · rw [if_pos h1.symm, if_pos h1]; rfl
  · rw [if_neg (fun z => h1 z.symm), if_neg h1]
    by_cases h2 : w = Str.ofString "along"
    · rw [if_pos h2.symm, if_pos (.inl h2)]; rfl
    · rw [if_neg (fun z => h2 z.symm)]
      by_cases h3 : w = Str.ofString "upright"
      · rw [if_pos h3.symm, if_pos (.inr h3)]; rfl
      · rw [if_neg (fun z => h3 z.symm), if_neg (by simp [h2, h3])]; rfl
theorem cut23 {a b c : Val} {xs : List Val} : cutL (a :: b :: c :: xs) (some 2) (some 3) = [c] := by
  unfold cutL
  have e1 : HT.sIx (a :: b :: c :: xs).length 0 (some 2) = 2 := by
    unfold HT.sIx
    simp
  have e2 : HT.sIx (a :: b :: c :: xs).length (a :: b :: c :: xs).length (some 3) = 3 := by
    unfold HT.sIx
    simp
  rw [e1, e2]
  rfl
theorem in_lines {w : Str} (h : w = Str.ofString "line" ∨ w = Str.ofString "along" ∨ w = Str.ofString "upright") : Lines.contains w = true := by
  rcases h with rfl | rfl | rfl <;> decide
/-- a line or a circle has two texts -/
def Tri (s : Stp) : Prop := s.w = Str.ofString "circle" ∨ Lines.contains s.w = true → ∃ a b : Str, s.xs = [.str a, .str b]
def Oth (steps : List Stp) (x : Val) : Prop := ∃ s ∈ steps, ∃ t ∈ steps, ∃ p ∈ txs t.xs, x = .tup [.str s.o, .str t.o, .str p]
theorem others_ok {k : Nat} {S : Store} {r0 : Nat} {steps : List Stp} (h0 : S[r0]? = some (.lst (steps.map Stp.v))) (F : Fine steps) (tri : ∀ s ∈ steps, Tri s) : Ev (callF T 64 (k + 1) 9 [.ref r0] S) fun v S' => ∃ r xs, v = .ref r ∧ S.length ≤ r ∧ S'[r]? = some (.lst xs) ∧ Old S S' ∧ xs.length ≤ 10000 ∧ ∀ x ∈ xs, Oth steps x := by
  have hm := F.many
  (refine ev_call (d := f9) rfl rfl ?_; simp only [f9, evSs, evS, evE, evEs, evO, evK, evI, evD, out_seq, out_then, out_nx, out_rt, out_ite, ev_bind, ev_pure, ev_ofOpt, ev_noExc, ev_alloc, ev_need, ev_ite', List.map, List.replicate, List.length, List.cons_append, List.nil_append, envGet, envSet, envDels, envDel, Option.some.injEq, exists_eq_left', Lit.val])
  refine ⟨rfl, ?_⟩
  rw [ev_srcL (snoc_old h0)]
  refine out_loop (xs := steps.map Stp.v) (fun i x => x) (fun j env S' => ∃ a b e xs, env = [some (.ref r0), some (.ref S.length), a, b, e] ∧ Old S S' ∧ S'[S.length]? = some (.lst xs) ∧ xs.length ≤ 100 * j ∧ ∀ x ∈ xs, Oth steps x) (len_dyn (snoc_old h0))
    (fun j env S' hJ => by obtain ⟨_, _, _, _, _, o, _⟩ := hJ; exact at_dyn (o.at h0)) (fun j x env S1 hx hJ => ?_) ⟨none, none, none, [], rfl, Old.snoc, snoc_new, by simp, by simp⟩ (fun env S1 hJ => ?_)
  · obtain ⟨a, b, e, xs, rfl, o1, h1, hl, hx1⟩ := hJ
    obtain ⟨s, hs1, rfl⟩ : ∃ s, steps[j]? = some s ∧ s.v = x := by
      rw [List.getElem?_map] at hx
      exact Option.map_eq_some_iff.mp hx
    have hj := (List.getElem?_eq_some_iff.mp hs1).1
    refine ⟨_, rfl, ?_⟩
    (simp only [evSs, evS, evE, evEs, evO, evK, evI, evD, out_seq, out_then, out_nx, out_rt, out_ite, ev_bind, ev_pure, ev_ofOpt, ev_noExc, ev_alloc, ev_need, ev_ite', List.map, List.replicate, List.length, List.cons_append, List.nil_append, envGet, envSet, envDels, envDel, Option.some.injEq, exists_eq_left', Lit.val])
    rw [show s.v = .tup (.str s.w :: .str s.o :: s.xs) from rfl, ev_idxT (v := .str s.w) at_zero, ev_eqS, ev_tb]
    by_cases hc : s.w = Str.ofString "circle"
    · rw [decide_eq_true hc, if_pos rfl, ev_srcL (o1.at h0)]
      obtain ⟨p, q, hpq⟩ := tri s (List.mem_of_getElem? hs1) (.inl hc)
      refine out_loop (xs := steps.map Stp.v) (fun i x => x) (fun i env S' => ∃ b e xs, env = [some (.ref r0), some (.ref S.length), some s.v, b, e] ∧ Old S S' ∧ S'[S.length]? = some (.lst xs) ∧ xs.length ≤ 100 * j + i ∧ ∀ x ∈ xs, Oth steps x) (len_dyn (o1.at h0))
        (fun j env S' hJ => by obtain ⟨_, _, _, _, o, _⟩ := hJ; exact at_dyn (o.at h0)) (fun i x env S2 hx hJ => ?_) ⟨_, _, xs, rfl, o1, h1, by omega, hx1⟩ (fun env S2 hJ => ?_)
      · obtain ⟨b, e, xs, rfl, o2, h2, hl2, hx2⟩ := hJ
        obtain ⟨t, ht1, rfl⟩ : ∃ t, steps[i]? = some t ∧ t.v = x := by
          rw [List.getElem?_map] at hx
          exact Option.map_eq_some_iff.mp hx
        have hi := (List.getElem?_eq_some_iff.mp ht1).1
        refine ⟨_, rfl, ?_⟩
        (simp only [evSs, evS, evE, evEs, evO, evK, evI, evD, out_seq, out_then, out_nx, out_rt, out_ite, ev_bind, ev_pure, ev_ofOpt, ev_noExc, ev_alloc, ev_need, ev_ite', List.map, List.replicate, List.length, List.cons_append, List.nil_append, envGet, envSet, envDels, envDel, Option.some.injEq, exists_eq_left', Lit.val])
        rw [show t.v = .tup (.str t.w :: .str t.o :: t.xs) from rfl, slc_tup, slc_tup, slc_tup, cut2]
        generalize hC : Val.tup (cutL (.str t.w :: .str t.o :: t.xs) (some 2) (some 3)) = C
        show Ev (recv Bm.get2 (.ref S2.length) (S2 ++ [Cell.dct (mergeV [] (tdic (.tup t.xs) C))])) _
        rw [tdic_eq, ev_recv (recv_dct rfl snoc_new), ev_idxT (v := .str t.w) at_zero]
        refine ⟨rfl, ?_⟩
        rw [ev_thr snoc_new]
        have hst : ∃ l : List Str, thr t.w (.tup t.xs) C = .tup (l.map .str) := by
          unfold thr
          by_cases g1 : t.w = Str.ofString "line"
          · rw [if_pos g1]
            obtain ⟨p', q', e'⟩ := tri t (List.mem_of_getElem? ht1) (.inr (in_lines (.inl g1)))
            exact ⟨[p', q'], by rw [e']; rfl⟩
          · rw [if_neg g1]
            by_cases g2 : t.w = Str.ofString "along" ∨ t.w = Str.ofString "upright"
            · rw [if_pos g2]
              obtain ⟨p', q', e'⟩ := tri t (List.mem_of_getElem? ht1) (.inr (in_lines (.inr g2)))
              exact ⟨[p'], by rw [← hC, e', cut23]; rfl⟩
            · rw [if_neg g2]
              exact ⟨[], rfl⟩
        obtain ⟨l, hl'⟩ := hst
        have es : s.v = .tup [.str s.w, .str s.o, .str p, .str q] := by unfold Stp.v; rw [hpq]
        rw [hl', es, ev_idxT (v := .str q) rfl, ev_in in_tup, ev_tb]
        have h3 := snoc_old (x := Cell.dct (tdic (Val.tup t.xs) C)) h2
        have o3 := Old.trans o2 (Old.snoc (x := Cell.dct (tdic (Val.tup t.xs) C)))
        generalize S2 ++ [Cell.dct (tdic (Val.tup t.xs) C)] = S3 at h3 o3
        cases l.contains q with
        | true =>
          rw [if_pos rfl, ev_recv (recv_lst rfl h3), ev_idxT (v := .str t.o) at_pair, ev_idxT (v := .str s.o) at_pair, ev_idxT (v := .str q) rfl]
          refine ⟨rfl, ?_⟩
          rw [ev_append h3 (by show _ < 16777216; omega)]
          refine ⟨_, _, _, rfl, o3.set (Nat.le_refl _), set_at h3, by rw [List.length_append]; simp only [List.length_cons, List.length_nil]; omega, fun x hx => ?_⟩
          rcases List.mem_append.mp hx with hx | hx
          · exact hx2 x hx
          · rw [List.mem_singleton.mp hx]
            exact ⟨t, List.mem_of_getElem? ht1, s, List.mem_of_getElem? hs1, q, by rw [hpq]; simp [txs], rfl⟩
        | false =>
          rw [if_neg (by simp)]
          exact ⟨_, _, xs, rfl, o3, h3, by omega, hx2⟩
      · obtain ⟨b, e, xs, rfl, o2, h2, hl2, hx2⟩ := hJ
        rw [List.length_map] at hl2
        exact ⟨_, _, _, xs, rfl, o2, h2, by omega, hx2⟩
    · rw [decide_eq_false hc, if_neg (by simp)]
      exact ⟨_, _, _, xs, rfl, o1, h1, by omega, hx1⟩
  · obtain ⟨a, b, e, xs, rfl, o1, h1, hl, hx1⟩ := hJ
    rw [List.length_map] at hl
    (simp only [evSs, evS, evE, evEs, evO, evK, evI, evD, out_seq, out_then, out_nx, out_rt, out_ite, ev_bind, ev_pure, ev_ofOpt, ev_noExc, ev_alloc, ev_need, ev_ite', List.map, List.replicate, List.length, List.cons_append, List.nil_append, envGet, envSet, envDels, envDel, Option.some.injEq, exists_eq_left', Lit.val])
    rw [swept_new (Nat.le_refl _)]
    exact ⟨_, xs, rfl, Nat.le_refl _, h1, o1, by omega, hx1⟩
end K16

namespace K16
open PySem L2 Pd

structure Ok1 (owns : List Str) (s : Stp) : Prop where
  w : s.w ∈ Words
  tri : Tri s
  few : s.xs.length ≤ 3
  xs : ∀ x ∈ s.xs, (∃ y ∈ owns, x = .str y) ∨ ∃ n : Nat, n ≤ 3 ∧ x = .int n
def sP : Str := Str.ofString "P"
def sL : Str := Str.ofString "L"
def sC : Str := Str.ofString "C"
def ldic (n : Nat) : List (DKey × Val) := [(.inr sP, .ref n), (.inr sL, .ref (n + 1)), (.inr sC, .ref (n + 2))]
theorem ldic_eq {n : Nat} : mergeV [] (ldic n) = ldic n := rfl
def slot (w : Str) : Nat := if w = sP then 0 else if w = sL then 1 else 2
theorem slot_lt (w : Str) : slot w < 3 := by
  unfold slot
  split <;> try split
  all_goals decide
theorem look_ldic {n : Nat} {w : Str} (h : w = sP ∨ w = sL ∨ w = sC) : lookV (ldic n) (.inr w) = some (.ref (n + slot w)) := by
  rcases h with rfl | rfl | rfl <;> rfl
theorem sort_of (w : Str) : sortOf w = sP ∨ sortOf w = sL ∨ sortOf w = sC := by
  unfold sortOf
  split
  · exact .inr (.inr rfl)
  · split
    · exact .inr (.inl rfl)
    · exact .inl rfl
/-- what is left -/
def Lf (owns : List Str) (n j : Nat) (S : Store) : Prop := S[n + 3]? = some (.dct (ldic n)) ∧ ∀ i, i < 3 → ∃ l : List Str, S[n + i]? = some (.lst (l.map .str)) ∧ (∀ x ∈ l, x ∈ owns) ∧ l.length ≤ j
theorem Lf.set {owns : List Str} {n j : Nat} {S : Store} (h : Lf owns n j S) {i : Nat} (hi : i < 3) {l : List Str} (hl : ∀ x ∈ l, x ∈ owns) (hj : l.length ≤ j) : Lf owns n j (S.set (n + i) (.lst (l.map .str))) := by
  refine ⟨by rw [List.getElem?_set_ne (by omega)]; exact h.1, fun k hk => ?_⟩
  by_cases e : k = i
  · subst e
    obtain ⟨l', h1, _⟩ := h.2 k hk
    exact ⟨l, set_at h1, hl, hj⟩
  · obtain ⟨l', h1, h2, h3⟩ := h.2 k hk
    exact ⟨l', by rw [List.getElem?_set_ne (by omega)]; exact h1, h2, h3⟩
theorem Lf.fr {owns : List Str} {n j d c : Nat} {S S' : Store} (h : Lf owns n j S) (F : Fr S S' d c) (hd : d < n) (hc : c < n) : Lf owns n j S' := by
  refine ⟨F.at h.1 (by omega) (by omega), fun k hk => ?_⟩
  obtain ⟨l', h1, h2, h3⟩ := h.2 k hk
  exact ⟨l', F.at h1 (by omega) (by omega), h2, h3⟩
theorem Lf.up {owns : List Str} {n j j' : Nat} {S : Store} (h : Lf owns n j S) (e : j ≤ j') : Lf owns n j' S := ⟨h.1, fun k hk => by obtain ⟨l', h1, h2, h3⟩ := h.2 k hk; exact ⟨l', h1, h2, by omega⟩⟩
def sN : Str := Str.ofString "n"
def sK : Str := Str.ofString "k"
def sg (f : Str) : List Str := f.cps.toList.map fun c => ⟨#[c]⟩
theorem signs_sg (f : Str) : signs f = (sg f).map .str := by unfold signs sg; rw [List.map_map]; rfl
theorem form_ok {w : Str} (h : w ∈ Words) (ho : w ≠ Str.ofString "other") : ∃ f : Str, lookV fms (.inr w) = some (.str f) ∧ (sg f).length ≤ 3 ∧ (∀ x ∈ sg f, x = sN ∨ x = sK ∨ x = sP ∨ x = sL ∨ x = sC) ∧ (w = Str.ofString "circle" ∨ Lines.contains w = true → (sg f).length = 2 ∧ ∀ x ∈ sg f, x ≠ sN ∧ x ≠ sK) := by
  unfold Words at h
  simp only [List.mem_cons, List.not_mem_nil, or_false] at h
  rcases h with rfl | rfl | rfl | rfl | rfl | rfl | rfl | rfl | rfl | rfl | rfl | rfl | rfl | rfl | rfl | rfl | rfl
  all_goals first | exact absurd rfl ho | exact ⟨_, rfl, by decide, by decide, by decide⟩
theorem map_erase {α β : Type} (g : α → β) : ∀ (l : List α) (i : Nat), (l.eraseIdx i).map g = (l.map g).eraseIdx i
  | [], i => rfl
  | a :: l, 0 => rfl
  | a :: l, i + 1 => by
    show g a :: (l.eraseIdx i).map g = g a :: (l.map g).eraseIdx i
    rw [map_erase g l i]
theorem Deck.set_new {S : Store} {d c m i : Nat} {x : Cell} (D : Deck S d c m) (h1 : i ≠ d) (h2 : i ≠ c) : Deck (S.set i x) d c m := by
  obtain ⟨⟨a, b, l, e1, e2, e3⟩, ne⟩ := D
  exact ⟨⟨a, b, l, by rw [List.getElem?_set_ne h1]; exact e1, by rw [List.getElem?_set_ne h2]; exact e2, e3⟩, ne⟩
theorem Fr.set_new {S S' : Store} {d c i : Nat} {x : Cell} (F : Fr S S' d c) (h : S.length ≤ i) : Fr S (S'.set i x) d c := ⟨by simpa using F.1, fun j hj h1 h2 => by rw [List.getElem?_set_ne (by omega)]; exact F.2 j hj h1 h2⟩
theorem free_in : Str.ofString "free" ∈ Words ∧ ¬(Str.ofString "free" = Str.ofString "circle" ∨ Lines.contains (Str.ofString "free") = true) := by decide
theorem other_in : Str.ofString "other" ∈ Words ∧ ¬(Str.ofString "other" = Str.ofString "circle" ∨ Lines.contains (Str.ofString "other") = true) := by decide
theorem next_ok {k : Nat} {S : Store} {d c m r0 rw : Nat} {name : Str} {steps : List Stp} (D : Deck S d c m) (hm : m < 2 ^ 50) (h0 : S[r0]? = some (.lst (steps.map Stp.v))) (hw : S[rw]? = some (.lst (Words.map .str))) (n1 : r0 ≠ d) (n2 : r0 ≠ c) (n3 : rw ≠ d) (n4 : rw ≠ c) (F : Fine steps) (tri : ∀ s ∈ steps, Tri s) (G : Good steps) (sok : ∀ s ∈ steps, PyData.strOk s.o = true) :
    Ev (callF T 64 (k + 3) 10 [.ref d, .ref r0, .str name, .ref rw] S) fun v S' => ∃ s : Stp, v = s.v ∧ s.o = name ∧ Ok1 (steps.map (·.o)) s ∧ Deck S' d c (m + 5) ∧ Fr S S' d c := by
  have hmany := F.many
  have hlt := D.lt
  (refine ev_call (d := f10) rfl rfl ?_; simp only [f10, evSs, evS, evE, evEs, evO, evK, evI, evD, out_seq, out_then, out_nx, out_rt, out_ite, ev_bind, ev_pure, ev_ofOpt, ev_noExc, ev_alloc, ev_need, ev_ite', List.map, List.replicate, List.length, List.cons_append, List.nil_append, envGet, envSet, envDels, envDel, Option.some.injEq, exists_eq_left', Lit.val])
  refine (pick_ok (k := k) D (by omega) hw n3 n4 (by decide) (by decide)).imp fun v S1 q1 => ?_
  obtain ⟨hv, D1, F1⟩ := q1
  obtain ⟨w, hw1, rfl⟩ := List.mem_map.mp hv
  refine (draw_ok (k := k + 1) D1 (by omega) (by decide) (by decide)).imp fun v S2 q2 => ?_
  obtain ⟨z, rfl, z0, z1, D2, F2⟩ := q2
  refine ⟨rfl, rfl, rfl, ?_⟩
  have F12 := F1.trans F2
  have hlt2 := D2.lt
  show Ev (srcV (.ref r0) (S2 ++ [Cell.lst []] ++ [Cell.lst []] ++ [Cell.lst []] ++ [Cell.dct (mergeV [] [(.inr sP, .ref S2.length), (.inr sL, .ref (S2 ++ [Cell.lst []]).length), (.inr sC, .ref (S2 ++ [Cell.lst []] ++ [Cell.lst []]).length)])])) _
  have e4 : S2 ++ [Cell.lst []] ++ [Cell.lst []] ++ [Cell.lst []] ++ [Cell.dct (mergeV [] [(.inr sP, .ref S2.length), (.inr sL, .ref (S2 ++ [Cell.lst []]).length), (.inr sC, .ref (S2 ++ [Cell.lst []] ++ [Cell.lst []]).length)])] = S2 ++ [Cell.lst [], Cell.lst [], Cell.lst [], Cell.dct (ldic S2.length)] := by
    rw [List.length_append, List.length_append, List.length_append]
    show _ ++ [Cell.dct (mergeV [] (ldic S2.length))] = _
    rw [ldic_eq]
    simp
  have L3 : Lf (steps.map (·.o)) S2.length 0 (S2 ++ [Cell.lst [], Cell.lst [], Cell.lst [], Cell.dct (ldic S2.length)]) := by
    refine ⟨by simp, fun i hi => ⟨[], ?_, by simp, by simp⟩⟩
    rw [List.getElem?_append_right (by omega), Nat.add_sub_cancel_left]
    rcases i with _ | _ | _ | i <;> first | rfl | omega
  have o3 : Old S2 (S2 ++ [Cell.lst [], Cell.lst [], Cell.lst [], Cell.dct (ldic S2.length)]) := ⟨by simp, fun i hi => List.getElem?_append_left hi⟩
  have el : (S2 ++ [Cell.lst []] ++ [Cell.lst []] ++ [Cell.lst []]).length = S2.length + 3 := by simp
  rw [e4]
  generalize (S2 ++ [Cell.lst [], Cell.lst [], Cell.lst [], Cell.dct (ldic S2.length)]) = S3 at L3 o3
  have h3 := o3.at (F12.at h0 n1 n2)
  rw [ev_srcL h3, el]
  generalize hn : S2.length = n at L3 el
  have own : ∀ (j : Nat) (s : Stp), steps[j]? = some s → s.o ∈ steps.map (·.o) := fun j s h => List.mem_map.mpr ⟨s, List.mem_of_getElem? h, rfl⟩
  refine out_loop (xs := steps.map Stp.v) (fun i x => x) (fun j env S' => ∃ a, env = [some (.ref d), some (.ref r0), some (.str name), some (.ref rw), some (.str w), some (.int z), some (.ref (n + 3)), a, none, none, none] ∧ Old S2 S' ∧ Lf (steps.map (·.o)) n j S') (len_dyn h3)
    (fun j env S' hJ => by obtain ⟨_, _, o, _⟩ := hJ; exact at_dyn (o.at (F12.at h0 n1 n2))) (fun j x env S4 hx hJ => ?_) ⟨none, rfl, o3, L3⟩ (fun env S4 hJ => ?_)
  · obtain ⟨a, rfl, o4, L4⟩ := hJ
    obtain ⟨s, hs1, rfl⟩ : ∃ s, steps[j]? = some s ∧ s.v = x := by
      rw [List.getElem?_map] at hx
      exact Option.map_eq_some_iff.mp hx
    have hj := (List.getElem?_eq_some_iff.mp hs1).1
    refine ⟨_, rfl, ?_⟩
    (simp only [evSs, evS, evE, evEs, evO, evK, evI, evD, out_seq, out_then, out_nx, out_rt, out_ite, ev_bind, ev_pure, ev_ofOpt, ev_noExc, ev_alloc, ev_need, ev_ite', List.map, List.replicate, List.length, List.cons_append, List.nil_append, envGet, envSet, envDels, envDel, Option.some.injEq, exists_eq_left', Lit.val])
    rw [show s.v = .tup (.str s.w :: .str s.o :: s.xs) from rfl, ev_idxT (v := .str s.w) at_zero]
    refine (sort_ok (k := k + 1)).imp fun v S5 q5 => ?_
    obtain ⟨rfl, o5⟩ := q5
    have hd4 := hn ▸ hlt2.1
    have hc4 := hn ▸ hlt2.2
    have L5 := L4.fr (Old.fr o5 d c) hd4 hc4
    obtain ⟨l, l1, l2, l3⟩ := L5.2 (slot (sortOf s.w)) (slot_lt _)
    rw [ev_idxD L5.1 rfl (look_ldic (sort_of s.w)), ev_recv (recv_lst rfl l1), ev_idxT (v := .str s.o) at_pair, ev_append l1 (by rw [List.length_map]; show _ < 16777216; omega)]
    refine ⟨_, rfl, (o4.trans o5).set (by omega), ?_⟩
    have := (L5.up (Nat.le_succ j)).set (slot_lt (sortOf s.w)) (l := l ++ [s.o]) (fun x hx => by
      rcases List.mem_append.mp hx with hx | hx
      · exact l2 x hx
      · rw [List.mem_singleton.mp hx]; exact own j s hs1) (by simp; omega)
    rw [List.map_append] at this
    exact this
  · obtain ⟨a, rfl, o4, L4⟩ := hJ
    rw [List.length_map] at L4
    (simp only [evSs, evS, evE, evEs, evO, evK, evI, evD, out_seq, out_then, out_nx, out_rt, out_ite, ev_bind, ev_pure, ev_ofOpt, ev_noExc, ev_alloc, ev_need, ev_ite', List.map, List.replicate, List.length, List.cons_append, List.nil_append, envGet, envSet, envDels, envDel, Option.some.injEq, exists_eq_left', Lit.val])
    rw [ev_eqS, ev_tb]
    have F4 : Fr S S4 d c := F12.trans (Old.fr o4 d c)
    have D4 := D2.old o4
    by_cases hw2 : w = Str.ofString "other"
    · rw [decide_eq_true hw2, if_pos rfl]
      refine (others_ok (k := k + 1) (F4.at h0 n1 n2) F tri).imp fun v S5 q5 => ?_
      obtain ⟨r5, xs, rfl, hr5, x5, o5, hl5, hx5⟩ := q5
      refine ⟨rfl, ?_⟩
      have back : ∀ t ∈ steps, ∀ p ∈ txs t.xs, p ∈ steps.map (·.o) := by
        intro t ht p hp
        obtain ⟨j, hj⟩ := List.getElem?_of_mem ht
        obtain ⟨i, u, _, hu, rfl⟩ := G.back j t hj p hp
        exact own i u hu
      have sok' : ∀ p ∈ steps.map (·.o), PyData.strOk p = true := by
        intro p hp
        obtain ⟨u, hu, rfl⟩ := List.mem_map.mp hp
        exact sok u hu
      have hsim : ∀ x ∈ xs, sim x = true ∧ vdep x ≤ 1 := by
        intro x hx
        obtain ⟨s, hs, t, ht, p, hp, rfl⟩ := hx5 x hx
        simp [sim, sims, vdep, vdeps, sok s hs, sok t ht, sok' p (back t ht p hp)]
      rw [ev_lcNe (snoc_old x5) snoc_new (sims_of fun x hx => (hsim x hx).1) (Nat.le_trans (vdeps_of fun x hx => (hsim x hx).2) (by decide)), ev_tb]
      have F5 := F4.trans (Fr.trans (Old.fr o5 d c) (Old.fr (Old.snoc (x := Cell.lst [])) d c))
      have D5 := ((D4.old o5).old (Old.snoc (x := Cell.lst []))).up (m' := m + 5) (by omega)
      have x6 := snoc_old (x := Cell.lst []) x5
      generalize S5 ++ [Cell.lst []] = S6 at F5 D5 x6
      cases he : xs.isEmpty with
      | true =>
        rw [if_neg (by simp)]
        exact ⟨rfl, ⟨Str.ofString "free", name, []⟩, rfl, rfl, ⟨free_in.1, fun h => absurd h free_in.2, by simp, by simp⟩, D5.sweep hlt.1 hlt.2, F5.sweep⟩
      | false =>
        rw [if_pos (by rfl)]
        have hne : xs ≠ [] := by intro q; rw [q] at he; cases he
        have hpos := List.length_pos_iff.mpr hne
        refine ⟨rfl, ?_⟩
        rw [ev_len (seqOf_at x6), ev_mod (by omega)]
        have b1 := fmod_lo z (b := (xs.length : Int)) (by omega)
        obtain ⟨i, hi⟩ : ∃ i : Nat, z.fmod xs.length = i := ⟨(z.fmod xs.length).toNat, by omega⟩
        rw [hi] at b1 ⊢
        have hi2 : i < xs.length := by omega
        rw [ev_idxL x6 (atI_nat (List.getElem?_eq_getElem hi2))]
        obtain ⟨s, hs, t, ht, p, hp, e⟩ := hx5 _ (List.getElem_mem hi2)
        rw [e, ev_catT (by show 5 ≤ 16777216; decide)]
        refine ⟨⟨Str.ofString "other", name, [.str s.o, .str t.o, .str p]⟩, rfl, rfl, ⟨other_in.1, fun h => absurd h other_in.2, by simp, fun x hx => ?_⟩, D5.sweep hlt.1 hlt.2, F5.sweep⟩
        simp only [List.mem_cons, List.not_mem_nil, or_false] at hx
        rcases hx with rfl | rfl | rfl
        · exact .inl ⟨_, List.mem_map.mpr ⟨s, hs, rfl⟩, rfl⟩
        · exact .inl ⟨_, List.mem_map.mpr ⟨t, ht, rfl⟩, rfl⟩
        · exact .inl ⟨_, back t ht p hp, rfl⟩
    · rw [decide_eq_false hw2, if_neg (by simp)]
      refine ⟨rfl, ?_⟩
      refine (forms_ok (k := k + 1)).imp fun v S5 q5 => ?_
      obtain ⟨r5, rfl, hr5, x5, o5⟩ := q5
      obtain ⟨f, hf, f3, f4, f5⟩ := form_ok hw1 hw2
      rw [ev_idxD x5 rfl hf, ev_srcS, signs_sg]
      have F5 := F4.trans (Old.fr o5 d c)
      have D5 := D4.old o5
      have L5 := L4.fr (Old.fr o5 d c) (hn ▸ hlt2.1) (hn ▸ hlt2.2)
      have hlz : ∀ (j : Nat) (xs : List Val) (x : Val), xs.length = j → j < (sg f).length → (Val.str w :: Val.str name :: xs).length + [x].length ≤ sizeMax := by
        intro j xs x h1 h2
        simp only [List.length_cons, List.length_nil]
        show _ ≤ 16777216
        omega
      refine out_loop (xs := (sg f).map .str) (fun i x => x) (fun j env S' => ∃ b xs, env = [some (.ref d), some (.ref r0), some (.str name), some (.ref rw), some (.str w), some (.int z), some (.ref (n + 3)), a, some (.tup (.str w :: .str name :: xs)), b, none] ∧ Deck S' d c (m + 2 + j) ∧ Fr S S' d c ∧ Lf (steps.map (·.o)) n steps.length S' ∧ xs.length = j ∧
          (∀ x ∈ xs, (∃ y ∈ steps.map (·.o), x = .str y) ∨ ∃ n : Nat, n ≤ 3 ∧ x = .int n) ∧ ((∀ x ∈ sg f, x ≠ sN ∧ x ≠ sK) → ∀ x ∈ xs, ∃ y ∈ steps.map (·.o), x = .str y)) rfl
        (fun j env S' _ => by show some ((sg f).map Val.str)[j]? = some (Option.map (fun x => x) _); rw [Option.map_id']) (fun j x env S6 hx hJ => ?_) ⟨none, [], rfl, D5, F5, L5, rfl, by simp, by simp⟩ (fun env S6 hJ => ?_)
      · obtain ⟨b, xs, rfl, D6, F6, L6, hxl, hx1, hx2⟩ := hJ
        obtain ⟨y, hy, rfl⟩ : ∃ y, (sg f)[j]? = some y ∧ Val.str y = x := by
          rw [List.getElem?_map] at hx
          exact Option.map_eq_some_iff.mp hx
        have hj := (List.getElem?_eq_some_iff.mp hy).1
        have hym := List.mem_of_getElem? hy
        refine ⟨_, rfl, ?_⟩
        (simp only [evSs, evS, evE, evEs, evO, evK, evI, evD, out_seq, out_then, out_nx, out_rt, out_ite, ev_bind, ev_pure, ev_ofOpt, ev_noExc, ev_alloc, ev_need, ev_ite', List.map, List.replicate, List.length, List.cons_append, List.nil_append, envGet, envSet, envDels, envDel, Option.some.injEq, exists_eq_left', Lit.val])
        rw [ev_eqS, ev_tb]
        by_cases yn : y = sN
        · rw [decide_eq_true (show y = Str.ofString "n" from yn), if_pos rfl, ev_mod (by decide), ev_add]
          refine ⟨rfl, ?_⟩
          rw [ev_catT (hlz j xs _ hxl hj)]
          have b1 := fmod_lo z (b := 3) (by decide)
          refine ⟨_, xs ++ [.int (1 + z.fmod 3)], rfl, D6.up (by omega), F6, L6, by simp [hxl], fun x hx => ?_, fun h => absurd yn (h y hym).1⟩
          rcases List.mem_append.mp hx with hx | hx
          · exact hx1 x hx
          · rw [List.mem_singleton.mp hx]
            exact .inr ⟨(1 + z.fmod 3).toNat, by omega, by congr 1; omega⟩
        · rw [decide_eq_false (show ¬y = Str.ofString "n" from yn), if_neg (by simp)]
          rw [ev_eqS, ev_tb]
          by_cases yk : y = sK
          · rw [decide_eq_true (show y = Str.ofString "k" from yk), if_pos rfl, ev_mod (by decide)]
            refine ⟨rfl, ?_⟩
            rw [ev_catT (hlz j xs _ hxl hj)]
            have b1 := fmod_lo z (b := 2) (by decide)
            refine ⟨_, xs ++ [.int (z.fmod 2)], rfl, D6.up (by omega), F6, L6, by simp [hxl], fun x hx => ?_, fun h => absurd yk (h y hym).2⟩
            rcases List.mem_append.mp hx with hx | hx
            · exact hx1 x hx
            · rw [List.mem_singleton.mp hx]
              exact .inr ⟨(z.fmod 2).toNat, by omega, by congr 1; omega⟩
          · rw [decide_eq_false (show ¬y = Str.ofString "k" from yk), if_neg (by simp)]
            have ys : y = sP ∨ y = sL ∨ y = sC := by
              rcases f4 y hym with h | h | h | h | h
              · exact absurd h yn
              · exact absurd h yk
              · exact .inl h
              · exact .inr (.inl h)
              · exact .inr (.inr h)
            obtain ⟨l, l1, l2, l3⟩ := L6.2 (slot y) (slot_lt y)
            rw [ev_idxD L6.1 rfl (look_ldic ys)]
            refine ⟨rfl, ?_⟩
            have sok' : ∀ p ∈ l, PyData.strOk p = true := by
              intro p hp
              obtain ⟨u, hu, rfl⟩ := List.mem_map.mp (l2 p hp)
              exact sok u hu
            have hsim : ∀ x ∈ l.map Val.str, sim x = true ∧ vdep x ≤ 0 := by
              intro x hx
              obtain ⟨p, hp, rfl⟩ := List.mem_map.mp hx
              exact ⟨sok' p hp, by simp [vdep]⟩
            rw [ev_eq (eq_nil (snoc_old l1) snoc_new (sims_of fun x hx => (hsim x hx).1) (Nat.le_trans (vdeps_of fun x hx => (hsim x hx).2) (by decide))), ev_tb]
            have F7 := F6.trans (Old.fr (Old.snoc (x := Cell.lst [])) d c)
            have D7 := D6.old (Old.snoc (x := Cell.lst []))
            have hdn : d < n := hn ▸ hlt2.1
            have hcn : c < n := hn ▸ hlt2.2
            have L7 := L6.fr (Old.fr (Old.snoc (x := Cell.lst [])) d c) hdn hcn
            have l7 := snoc_old (x := Cell.lst []) l1
            generalize S6 ++ [Cell.lst []] = S7 at F7 D7 L7 l7
            cases he : (l.map Val.str).isEmpty with
            | true =>
              rw [if_pos (by rfl)]
              exact ⟨rfl, ⟨Str.ofString "free", name, []⟩, rfl, rfl, ⟨free_in.1, fun h => absurd h free_in.2, by simp, by simp⟩, (D7.up (by omega)).sweep hlt.1 hlt.2, F7.sweep⟩
            | false =>
              rw [if_neg (by simp)]
              have hne : l ≠ [] := by intro q; rw [q] at he; cases he
              have hpos := List.length_pos_iff.mpr hne
              rw [ev_idxD L7.1 rfl (look_ldic ys), ev_recv (recv_lst rfl l7), ev_idxD L7.1 rfl (look_ldic ys), ev_len (seqOf_at l7), List.length_map]
              refine (draw_ok (k := k + 1) D7 (by omega) (by omega) (by omega)).imp fun v S8 q8 => ?_
              obtain ⟨t, rfl, t0, t1, D8, F8⟩ := q8
              have L8 := L7.fr F8 hdn hcn
              have l8 := F8.at l7 (by omega) (by omega)
              obtain ⟨i, rfl⟩ : ∃ i : Nat, t = i := ⟨t.toNat, by omega⟩
              have hi : i < l.length := by omega
              have hv : (l.map Val.str)[i]? = some (.str l[i]) := by rw [List.getElem?_map, List.getElem?_eq_getElem hi]; rfl
              have hix : seqIndex? (i : Int) (l.map Val.str).length = some i := by
                rw [List.length_map]
                unfold seqIndex?
                simp
                omega
              rw [ev_popAt l8 (by omega) (by omega) hix hv]
              refine ⟨rfl, ?_⟩
              rw [ev_catT (hlz j xs _ hxl hj)]
              have hin : l[i] ∈ steps.map (·.o) := l2 _ (List.getElem_mem hi)
              have F9 : Fr S (S8.set (n + slot y) (.lst ((l.map Val.str).eraseIdx i))) d c := (F7.trans F8).set_new (by have := F12.1; omega)
              have L9 : Lf (steps.map (·.o)) n steps.length (S8.set (n + slot y) (.lst ((l.map Val.str).eraseIdx i))) := by
                have := L8.set (slot_lt y) (l := l.eraseIdx i) (fun x hx => l2 x (List.mem_of_mem_eraseIdx hx)) (Nat.le_trans (List.length_eraseIdx_le _ _) l3)
                rw [map_erase] at this
                exact this
              refine ⟨_, xs ++ [.str l[i]], rfl, ?_, F9, L9, by simp [hxl], fun x hx => ?_, fun h x hx => ?_⟩
              · exact (D8.set_new (by omega) (by omega)).up (by omega)
              · rcases List.mem_append.mp hx with hx | hx
                · exact hx1 x hx
                · rw [List.mem_singleton.mp hx]
                  exact .inl ⟨_, hin, rfl⟩
              · rcases List.mem_append.mp hx with hx | hx
                · exact hx2 h x hx
                · rw [List.mem_singleton.mp hx]
                  exact ⟨_, hin, rfl⟩
      · obtain ⟨b, xs, rfl, D6, F6, L6, hxl, hx1, hx2⟩ := hJ
        rw [List.length_map] at D6 hxl
        (simp only [evSs, evS, evE, evEs, evO, evK, evI, evD, out_seq, out_then, out_nx, out_rt, out_ite, ev_bind, ev_pure, ev_ofOpt, ev_noExc, ev_alloc, ev_need, ev_ite', List.map, List.replicate, List.length, List.cons_append, List.nil_append, envGet, envSet, envDels, envDel, Option.some.injEq, exists_eq_left', Lit.val])
        refine ⟨⟨w, name, xs⟩, rfl, rfl, ⟨hw1, fun h => ?_, by show xs.length ≤ 3; omega, hx1⟩, (D6.up (by omega)).sweep hlt.1 hlt.2, F6.sweep⟩
        obtain ⟨h1, h2⟩ := f5 h
        have h3 := hx2 h2
        rw [h1] at hxl
        match xs, hxl, h3 with
        | [p, q], _, h3 =>
          obtain ⟨p', _, rfl⟩ := h3 p (by simp)
          obtain ⟨q', _, rfl⟩ := h3 q (by simp)
          exact ⟨p', q', rfl⟩
end K16

namespace K16
open PySem L2 Pd

structure Nms (names : List Str) : Prop where
  len : names.length = 16
  nd : names.Nodup
  ok : ∀ x ∈ names, PyData.strOk x = true ∧ x.cps.size ≤ 100
structure Sk (names : List Str) (steps : List Stp) : Prop where
  len : steps.length ≤ names.length
  own : steps.map (·.o) = names.take steps.length
  ok : ∀ (i : Nat) (s : Stp), steps[i]? = some s → Ok1 (names.take i) s
theorem Sk.at {names : List Str} {steps : List Stp} (K : Sk names steps) {i : Nat} {s : Stp} (h : steps[i]? = some s) : names[i]? = some s.o := by
  have hi := (List.getElem?_eq_some_iff.mp h).1
  have : (steps.map (·.o))[i]? = some s.o := by rw [List.getElem?_map, h]; rfl
  rw [K.own, List.getElem?_take, if_pos hi] at this
  exact this
theorem Sk.fine {names : List Str} {steps : List Stp} (N : Nms names) (K : Sk names steps) : Fine steps := by
  have h1 := K.len
  have h2 := N.len
  refine ⟨by omega, fun s hs => ?_⟩
  obtain ⟨i, hi⟩ := List.getElem?_of_mem hs
  have := (K.ok i s hi).few
  omega
theorem Sk.tri {names : List Str} {steps : List Stp} (K : Sk names steps) : ∀ s ∈ steps, Tri s := fun s hs => by
  obtain ⟨i, hi⟩ := List.getElem?_of_mem hs
  exact (K.ok i s hi).tri
theorem txs_mem {x : Str} : ∀ {l : List Val}, x ∈ txs l → .str x ∈ l
  | [], h => by cases h
  | .str y :: r, h => by
    rcases List.mem_cons.mp h with rfl | h
    · exact List.mem_cons_self
    · exact List.mem_cons_of_mem _ (txs_mem h)
  | .non :: r, h => List.mem_cons_of_mem _ (txs_mem (l := r) h)
  | .bl _ :: r, h => List.mem_cons_of_mem _ (txs_mem (l := r) h)
  | .int _ :: r, h => List.mem_cons_of_mem _ (txs_mem (l := r) h)
  | .tup _ :: r, h => List.mem_cons_of_mem _ (txs_mem (l := r) h)
  | .ins _ _ :: r, h => List.mem_cons_of_mem _ (txs_mem (l := r) h)
  | .scr _ :: r, h => List.mem_cons_of_mem _ (txs_mem (l := r) h)
  | .ref _ :: r, h => List.mem_cons_of_mem _ (txs_mem (l := r) h)
theorem Sk.good {names : List Str} {steps : List Stp} (N : Nms names) (K : Sk names steps) : Good steps := by
  refine ⟨?_, fun i s hi x hx => ?_⟩
  · show (steps.map (·.o)).Nodup
    rw [K.own]
    exact N.nd.sublist (List.take_sublist _ _)
  · rcases (K.ok i s hi).xs _ (txs_mem hx) with ⟨y, hy, e⟩ | ⟨n, _, e⟩
    · cases e
      obtain ⟨j, hj⟩ := List.getElem?_of_mem hy
      rw [List.getElem?_take] at hj
      split at hj
      · have hlt := (List.getElem?_eq_some_iff.mp hi).1
        obtain ⟨t, ht⟩ : ∃ t, steps[j]? = some t := ⟨_, List.getElem?_eq_getElem (by omega)⟩
        have := K.at ht
        rw [hj] at this
        exact ⟨j, t, by omega, ht, (Option.some.inj this).symm⟩
      · cases hj
    · cases e
theorem Sk.own_ok {names : List Str} {steps : List Stp} (N : Nms names) (K : Sk names steps) : ∀ s ∈ steps, PyData.strOk s.o = true ∧ s.o.cps.size ≤ 100 := fun s hs => by
  obtain ⟨i, hi⟩ := List.getElem?_of_mem hs
  exact N.ok _ (List.mem_of_getElem? (K.at hi))
theorem words_short : ∀ w ∈ Words, PyData.strOk w = true ∧ w.cps.size ≤ 100 := by decide +kernel
theorem Ok1.x {names : List Str} {i : Nat} {s : Stp} (N : Nms names) (h : Ok1 (names.take i) s) : ∀ x ∈ s.xs, Short x 100 ∧ vdep x = 0 ∧ sim x = true := fun x hx => by
  rcases h.xs x hx with ⟨y, hy, rfl⟩ | ⟨n, hn, rfl⟩
  · have := N.ok y (List.mem_of_mem_take hy)
    exact ⟨short_str this.1 this.2, rfl, this.1⟩
  · refine ⟨?_, rfl, rfl⟩
    obtain ⟨a, b, c, d, e⟩ := short_nat (i := n) (by omega)
    exact ⟨a, b, Nat.le_trans c (by decide), d, e⟩
theorem Sk.plain {names : List Str} {steps : List Stp} (N : Nms names) (K : Sk names steps) : Plain steps := ⟨fun s hs x hx => by
  obtain ⟨i, hi⟩ := List.getElem?_of_mem hs
  have := (K.ok i s hi).x N x hx
  exact ⟨this.2.2, by rw [this.2.1]; decide⟩⟩
theorem Sk.brief {names : List Str} {steps : List Stp} (N : Nms names) (K : Sk names steps) : Brief steps := by
  refine ⟨fun s hs => ?_, fun s hs x hx => ?_⟩
  · have h1 := K.own_ok N s hs
    obtain ⟨i, hi⟩ := List.getElem?_of_mem hs
    have h2 := words_short s.w (K.ok i s hi).w
    exact ⟨short_str h2.1 h2.2, short_str h1.1 h1.2⟩
  · obtain ⟨i, hi⟩ := List.getElem?_of_mem hs
    have := (K.ok i s hi).x N x hx
    exact ⟨this.1, this.2.1⟩
theorem Sk.snoc {names : List Str} {steps : List Stp} (K : Sk names steps) {s : Stp} (h : names[steps.length]? = some s.o) (ok : Ok1 (steps.map (·.o)) s) : Sk names (steps ++ [s]) := by
  have hl := (List.getElem?_eq_some_iff.mp h).1
  refine ⟨by rw [List.length_append]; exact hl, ?_, fun i t hi => ?_⟩
  · rw [List.map_append, K.own, List.length_append, List.length_singleton, List.take_succ, h]
    rfl
  · by_cases e : i < steps.length
    · rw [List.getElem?_append_left e] at hi
      exact K.ok i t hi
    · have hlen := (List.getElem?_eq_some_iff.mp hi).1
      rw [List.length_append, List.length_singleton] at hlen
      have : i = steps.length := by omega
      subst this
      rw [List.getElem?_append_right (Nat.le_refl _), Nat.sub_self] at hi
      cases hi
      rw [← K.own]
      exact ok
theorem Sk.take {names : List Str} {steps : List Stp} (K : Sk names steps) (n : Nat) : Sk names (steps.take n) := by
  refine ⟨by rw [List.length_take]; have := K.len; omega, ?_, fun i t hi => ?_⟩
  · rw [List.map_take, K.own, List.take_take, List.length_take]
  · rw [List.getElem?_take] at hi
    split at hi
    · exact K.ok i t hi
    · cases hi
end K16

namespace K16
open PySem L2 Pd

theorem cut_to {α : Type} (xs : List α) (n : Nat) : cutL xs none (some (n : Int)) = xs.take n := by
  unfold cutL
  rw [HT.sIx_none, HT.sIx_nat, List.drop_zero, Nat.sub_zero]
  by_cases h : n ≤ xs.length
  · rw [Nat.min_eq_left h]
  · rw [Nat.min_eq_right (by omega), List.take_of_length_le (by omega), List.take_of_length_le (by omega)]
theorem cut_from {α : Type} (xs : List α) (n : Nat) : cutL xs (some (n : Int)) none = xs.drop n := by
  unfold cutL
  rw [HT.sIx_none, HT.sIx_nat]
  by_cases h : n ≤ xs.length
  · rw [Nat.min_eq_left h, List.take_of_length_le (by rw [List.length_drop]; omega)]
  · rw [Nat.min_eq_right (by omega), List.drop_of_length_le (by omega), List.drop_of_length_le (by omega)]
    simp
theorem ev_range {S : Store} {Q : Src → Store → Prop} {a b : Int} (h0 : -1000000 ≤ a) (h1 : a < 1000000) (h2 : -1000000 ≤ b) (h3 : b < 1000000) : Ev (rangeV a b S) Q = Q (.stat (upTo a (b - a).toNat)) S := by
  unfold rangeV
  have h62 : ((2 : Int) ^ 62) = 4611686018427387904 := by decide
  rw [if_pos (by simp only [Bool.and_eq_true, decide_eq_true_eq, h62]; exact ⟨⟨⟨by omega, by omega⟩, by omega⟩, by omega⟩)]; rfl
theorem upTo_len {a : Int} {n : Nat} : (Pd.upTo a n).length = n := by simp [Pd.upTo]
theorem upTo_at {a : Int} {n j : Nat} {x : Val} (h : (Pd.upTo a n)[j]? = some x) : j < n ∧ x = .int (a + (j : Nat)) := by
  have hj := (List.getElem?_eq_some_iff.mp h).1
  rw [upTo_len] at hj
  unfold Pd.upTo at h
  rw [List.getElem?_map, List.getElem?_range hj] at h
  exact ⟨hj, (Option.some.inj h).symm⟩
theorem Nms.at {names : List Str} (N : Nms names) (i : Nat) (h : i < 16) : ∃ y : Str, names[i]? = some y ∧ L2.atI (names.map Val.str) (i : Nat) = some (.str y) := by
  have hl := N.len
  obtain ⟨y, hy⟩ : ∃ y, names[i]? = some y := ⟨_, List.getElem?_eq_getElem (by omega)⟩
  exact ⟨y, hy, atI_nat (by rw [List.getElem?_map, hy]; rfl)⟩
theorem ev_slcL {S : Store} {Q : Val → Store → Prop} {i : Nat} {xs : List Val} {l h : Option Int} (e : S[i]? = some (.lst xs)) : Ev (slcV (.ref i) l h S) Q = Q (.ref S.length) (S ++ [.lst (cutL xs l h)]) := by
  show Ev (cutLst i l h S) Q = _
  unfold cutLst
  rw [e]; rfl
theorem two_ok {owns : List Str} {w o a b : Str} (hw : w ∈ Words) (ha : a ∈ owns) (hb : b ∈ owns) : Ok1 owns ⟨w, o, [.str a, .str b]⟩ := by
  refine ⟨hw, fun _ => ⟨a, b, rfl⟩, by simp, fun x hx => ?_⟩
  simp only [List.mem_cons, List.not_mem_nil, or_false] at hx
  rcases hx with rfl | rfl
  · exact .inl ⟨_, ha, rfl⟩
  · exact .inl ⟨_, hb, rfl⟩
theorem free_ok {owns : List Str} {o : Str} : Ok1 owns ⟨Str.ofString "free", o, []⟩ := ⟨free_in.1, fun h => absurd h free_in.2, by simp, by simp⟩
theorem Sk.nil {names : List Str} : Sk names [] := ⟨by simp, by simp, by simp⟩
/-- the first three -/
theorem Sk.three {names : List Str} {y0 y1 y2 w a b : Str} (h0 : names[0]? = some y0) (h1 : names[1]? = some y1) (h2 : names[2]? = some y2) (hw : w ∈ Words) (ha : a = y0 ∨ a = y1) (hb : b = y0 ∨ b = y1) : Sk names [⟨Str.ofString "free", y0, []⟩, ⟨Str.ofString "free", y1, []⟩, ⟨w, y2, [.str a, .str b]⟩] := by
  have k1 := Sk.nil.snoc (s := ⟨Str.ofString "free", y0, []⟩) h0 free_ok
  have k2 := k1.snoc (s := ⟨Str.ofString "free", y1, []⟩) h1 free_ok
  exact k2.snoc (s := ⟨w, y2, [.str a, .str b]⟩) h2 (two_ok hw (by rcases ha with rfl | rfl <;> simp) (by rcases hb with rfl | rfl <;> simp))
theorem sketch_ok {k : Nat} {S : Store} {d c m rn rw : Nat} {many : Nat} {names : List Str} (D : Deck S d c m) (hm : m < 2 ^ 49) (hn : S[rn]? = some (.lst (names.map .str))) (hw : S[rw]? = some (.lst (Words.map .str))) (n1 : rn ≠ d) (n2 : rn ≠ c) (n3 : rw ≠ d) (n4 : rw ≠ c) (N : Nms names) (h1 : 1 ≤ many) (h2 : many ≤ 14) :
    Ev (callF T 64 (k + 4) 12 [.ref d, .ref rn, .int (many : Nat), .ref rw] S) fun v S' => ∃ steps : List Stp, v = .tup (steps.map Stp.v) ∧ 0 < steps.length ∧ Sk names steps ∧ Deck S' d c (m + 100) ∧ Fr S S' d c := by
  have hlt := D.lt
  have hlen := N.len
  (refine ev_call (d := f12) rfl rfl ?_; simp only [f12, evSs, evS, evE, evEs, evO, evK, evI, evD, out_seq, out_then, out_nx, out_rt, out_ite, ev_bind, ev_pure, ev_ofOpt, ev_noExc, ev_alloc, ev_need, ev_ite', List.map, List.replicate, List.length, List.cons_append, List.nil_append, envGet, envSet, envDels, envDel, Option.some.injEq, exists_eq_left', Lit.val])
  obtain ⟨y0, g0, a0⟩ := N.at 0 (by decide)
  obtain ⟨y1, g1, a1⟩ := N.at 1 (by decide)
  obtain ⟨y2, g2, a2⟩ := N.at 2 (by decide)
  replace a0 : L2.atI (names.map Val.str) 0 = some (.str y0) := a0
  replace a1 : L2.atI (names.map Val.str) 1 = some (.str y1) := a1
  replace a2 : L2.atI (names.map Val.str) 2 = some (.str y2) := a2
  rw [ev_idxL hn a0]
  refine ⟨rfl, ?_⟩
  rw [ev_idxL hn a1]
  refine ⟨rfl, ?_⟩
  rw [ev_idxL hn a2, ev_idxL hn a0, ev_idxL hn a1]
  refine ⟨rfl, rfl, ?_⟩
  have D1 := D.old (Old.snoc (x := Cell.lst [Val.tup [.str (Str.ofString "free"), .str y0], .tup [.str (Str.ofString "free"), .str y1], .tup [.str (Str.ofString "line"), .str y2, .str y0, .str y1]]))
  refine (draw_ok (k := k + 2) D1 (by omega) (by decide) (by decide)).imp fun v S1 q1 => ?_
  obtain ⟨z, rfl, z0, z1, D2, F2⟩ := q1
  have e1 := F2.at (snoc_new (S := S)) (by omega) (by omega)
  have F1 : Fr S S1 d c := (Old.fr (Old.snoc (x := Cell.lst [Val.tup [.str (Str.ofString "free"), .str y0], .tup [.str (Str.ofString "free"), .str y1], .tup [.str (Str.ofString "line"), .str y2, .str y0, .str y1]])) d c).trans F2
  rw [ev_eqI, ev_tb]
  have hn1 := F1.at hn n1 n2
  have hw1 := F1.at hw n3 n4
  by_cases hz : z = 1
  case' pos =>
    rw [decide_eq_true hz, if_pos rfl, ev_idxL hn1 a2, ev_idxL hn1 a1, ev_idxL hn1 a0]
    refine ⟨rfl, ?_⟩
    rw [ev_setL (n := 2) e1 rfl]
    have e2 := set_at (x := Cell.lst (([⟨Str.ofString "free", y0, []⟩, ⟨Str.ofString "free", y1, []⟩, ⟨Str.ofString "circle", y2, [.str y1, .str y0]⟩] : List Stp).map Stp.v)) e1
    have K : Sk names [⟨Str.ofString "free", y0, []⟩, ⟨Str.ofString "free", y1, []⟩, ⟨Str.ofString "circle", y2, [.str y1, .str y0]⟩] := Sk.three g0 g1 g2 (by decide) (.inr rfl) (.inl rfl)
    have h3 : ([⟨Str.ofString "free", y0, []⟩, ⟨Str.ofString "free", y1, []⟩, ⟨Str.ofString "circle", y2, [.str y1, .str y0]⟩] : List Stp).length = 3 := rfl
    have F3 : Fr S (S1.set S.length (.lst (([⟨Str.ofString "free", y0, []⟩, ⟨Str.ofString "free", y1, []⟩, ⟨Str.ofString "circle", y2, [.str y1, .str y0]⟩] : List Stp).map Stp.v))) d c := F1.set_new (Nat.le_refl _)
    have D3 := D2.set_new (i := S.length) (x := Cell.lst (([⟨Str.ofString "free", y0, []⟩, ⟨Str.ofString "free", y1, []⟩, ⟨Str.ofString "circle", y2, [.str y1, .str y0]⟩] : List Stp).map Stp.v)) (by omega) (by omega)
    show Ev (biV .max2 [.int 3, .int (many : Nat)] (S1.set S.length (.lst (([⟨Str.ofString "free", y0, []⟩, ⟨Str.ofString "free", y1, []⟩, ⟨Str.ofString "circle", y2, [.str y1, .str y0]⟩] : List Stp).map Stp.v)))) _
    generalize ([⟨Str.ofString "free", y0, []⟩, ⟨Str.ofString "free", y1, []⟩, ⟨Str.ofString "circle", y2, [.str y1, .str y0]⟩] : List Stp) = st at e2 K h3 F3 D3 ⊢
    generalize S1.set S.length (.lst (st.map Stp.v)) = S3 at e2 F3 D3 ⊢
  case' neg =>
    rw [decide_eq_false hz, if_neg (by simp)]
    have e2 : S1[S.length]? = some (Cell.lst (([⟨Str.ofString "free", y0, []⟩, ⟨Str.ofString "free", y1, []⟩, ⟨Str.ofString "line", y2, [.str y0, .str y1]⟩] : List Stp).map Stp.v)) := e1
    have K : Sk names [⟨Str.ofString "free", y0, []⟩, ⟨Str.ofString "free", y1, []⟩, ⟨Str.ofString "line", y2, [.str y0, .str y1]⟩] := Sk.three g0 g1 g2 (by decide) (.inl rfl) (.inr rfl)
    have h3 : ([⟨Str.ofString "free", y0, []⟩, ⟨Str.ofString "free", y1, []⟩, ⟨Str.ofString "line", y2, [.str y0, .str y1]⟩] : List Stp).length = 3 := rfl
    have F3 := F1
    have D3 := D2
    generalize ([⟨Str.ofString "free", y0, []⟩, ⟨Str.ofString "free", y1, []⟩, ⟨Str.ofString "line", y2, [.str y0, .str y1]⟩] : List Stp) = st at e2 K h3
    clear e1
    generalize S1 = S3 at e2 F3 D3 ⊢
  all_goals
    have hmax : ∀ (Q : Val → Store → Prop) (S' : Store), Ev (biV .max2 [.int 3, .int (many : Nat)] S') Q = Q (.int ((max 3 many : Nat) : Int)) S' := by
      intro Q S'
      show Ev ((pure (.int (if (many : Int) > 3 then (many : Int) else 3)) : M Val) S') Q = _
      have : (if (many : Int) > 3 then (many : Int) else 3) = ((max 3 many : Nat) : Int) := by split <;> omega
      rw [this]
      rfl
    rw [hmax]
    show Ev (rangeV 3 ((max 3 many : Nat) : Int) S3) _
    rw [ev_range (by omega) (by omega) (by omega) (by omega), show (((max 3 many : Nat) : Int) - 3).toNat = max 3 many - 3 by omega]
    refine out_loop (xs := Pd.upTo 3 (max 3 many - 3)) (fun i x => x) (fun j env S' => ∃ b st, env = [some (.ref d), some (.ref rn), some (.int (many : Nat)), some (.ref rw), some (.ref S.length), b] ∧ S'[S.length]? = some (.lst (st.map Stp.v)) ∧ Sk names st ∧ st.length = 3 + j ∧ Fr S S' d c ∧ Deck S' d c (m + 1 + 5 * j)) rfl
      (fun j env S' _ => by show some (Pd.upTo 3 (max 3 many - 3))[j]? = some (Option.map (fun x => x) _); rw [Option.map_id']) (fun j x env S4 hx hJ => ?_) ⟨none, st, rfl, e2, K, h3, F3, D3⟩ (fun env S4 hJ => ?_)
    · obtain ⟨b, st, rfl, e4, K4, hl4, F4, D4⟩ := hJ
      obtain ⟨hj, rfl⟩ := upTo_at hx
      refine ⟨_, rfl, ?_⟩
      (simp only [evSs, evS, evE, evEs, evO, evK, evI, evD, out_seq, out_then, out_nx, out_rt, out_ite, ev_bind, ev_pure, ev_ofOpt, ev_noExc, ev_alloc, ev_need, ev_ite', List.map, List.replicate, List.length, List.cons_append, List.nil_append, envGet, envSet, envDels, envDel, Option.some.injEq, exists_eq_left', Lit.val])
      obtain ⟨y, gy, ay⟩ := N.at (3 + j) (by omega)
      rw [ev_recv (recv_lst rfl e4), ev_idxL (F4.at hn n1 n2) (show L2.atI (names.map Val.str) (3 + (j : Int)) = _ by rw [← ay]; congr 1)]
      refine (next_ok (k := k) D4 (by omega) e4 (F4.at hw n3 n4) (by omega) (by omega) n3 n4 (K4.fine N) K4.tri (K4.good N) (fun s hs => (K4.own_ok N s hs).1)).imp fun v S5 q5 => ?_
      obtain ⟨s, rfl, rfl, ok, D5, F5⟩ := q5
      have e5 := F5.at e4 (by omega) (by omega)
      rw [ev_append e5 (by rw [List.length_map]; show _ < 16777216; omega)]
      refine ⟨_, st ++ [s], rfl, ?_, K4.snoc (by rw [hl4]; exact gy) ok, by simp; omega, (F4.trans F5).set_new (Nat.le_refl _), ?_⟩
      · rw [List.map_append]
        exact set_at e5
      · exact (D5.set_new (by omega) (by omega)).up (by omega)
    · obtain ⟨b, st, rfl, e4, K4, hl4, F4, D4⟩ := hJ
      rw [upTo_len] at hl4 D4
      (simp only [evSs, evS, evE, evEs, evO, evK, evI, evD, out_seq, out_then, out_nx, out_rt, out_ite, ev_bind, ev_pure, ev_ofOpt, ev_noExc, ev_alloc, ev_need, ev_ite', List.map, List.replicate, List.length, List.cons_append, List.nil_append, envGet, envSet, envDels, envDel, Option.some.injEq, exists_eq_left', Lit.val])
      rw [ev_slcL e4, cut_to, ev_tuple (lstOf_at snoc_new), ← List.map_take]
      exact ⟨st.take many, rfl, by rw [List.length_take]; omega, K4.take many, ((D4.old Old.snoc).up (by omega)).sweep hlt.1 hlt.2, (F4.trans (Old.fr Old.snoc d c)).sweep⟩
theorem chain_ok {k : Nat} {S : Store} {rn : Nat} {names : List Str} (hn : S[rn]? = some (.lst (names.map .str))) (N : Nms names) :
    Ev (callF T 64 (k + 1) 16 [.ref rn] S) fun v S' => ∃ steps : List Stp, v = .tup (steps.map Stp.v) ∧ 2 < steps.length ∧ Sk names steps ∧ Old S S' := by
  have hlen := N.len
  (refine ev_call (d := f16) rfl rfl ?_; simp only [f16, evSs, evS, evE, evEs, evO, evK, evI, evD, out_seq, out_then, out_nx, out_rt, out_ite, ev_bind, ev_pure, ev_ofOpt, ev_noExc, ev_alloc, ev_need, ev_ite', List.map, List.replicate, List.length, List.cons_append, List.nil_append, envGet, envSet, envDels, envDel, Option.some.injEq, exists_eq_left', Lit.val])
  obtain ⟨y0, g0, a0⟩ := N.at 0 (by decide)
  obtain ⟨y1, g1, a1⟩ := N.at 1 (by decide)
  obtain ⟨y2, g2, a2⟩ := N.at 2 (by decide)
  replace a0 : L2.atI (names.map Val.str) 0 = some (.str y0) := a0
  replace a1 : L2.atI (names.map Val.str) 1 = some (.str y1) := a1
  replace a2 : L2.atI (names.map Val.str) 2 = some (.str y2) := a2
  rw [ev_idxL hn a0]
  refine ⟨rfl, ?_⟩
  rw [ev_idxL hn a1]
  refine ⟨rfl, ?_⟩
  rw [ev_idxL hn a2, ev_idxL hn a0, ev_idxL hn a1]
  refine ⟨rfl, rfl, ?_⟩
  have e2 : (S ++ [Cell.lst (([⟨Str.ofString "free", y0, []⟩, ⟨Str.ofString "free", y1, []⟩, ⟨Str.ofString "middle", y2, [.str y0, .str y1]⟩] : List Stp).map Stp.v)])[S.length]? = _ := snoc_new
  have K : Sk names [⟨Str.ofString "free", y0, []⟩, ⟨Str.ofString "free", y1, []⟩, ⟨Str.ofString "middle", y2, [.str y0, .str y1]⟩] := Sk.three g0 g1 g2 (by decide) (.inl rfl) (.inr rfl)
  have o2 := Old.snoc (S := S) (x := Cell.lst (([⟨Str.ofString "free", y0, []⟩, ⟨Str.ofString "free", y1, []⟩, ⟨Str.ofString "middle", y2, [.str y0, .str y1]⟩] : List Stp).map Stp.v))
  show Ev (rangeV 3 14 (S ++ [Cell.lst (([⟨Str.ofString "free", y0, []⟩, ⟨Str.ofString "free", y1, []⟩, ⟨Str.ofString "middle", y2, [.str y0, .str y1]⟩] : List Stp).map Stp.v)])) _
  generalize (S ++ [Cell.lst (([⟨Str.ofString "free", y0, []⟩, ⟨Str.ofString "free", y1, []⟩, ⟨Str.ofString "middle", y2, [.str y0, .str y1]⟩] : List Stp).map Stp.v)]) = S3 at e2 o2
  rw [ev_range (by omega) (by omega) (by omega) (by omega)]
  refine out_loop (xs := Pd.upTo 3 11) (fun i x => x) (fun j env S' => ∃ b st, env = [some (.ref rn), some (.ref S.length), b] ∧ S'[S.length]? = some (.lst (st.map Stp.v)) ∧ Sk names st ∧ st.length = 3 + j ∧ Old S S') rfl
    (fun j env S' _ => by show some (Pd.upTo 3 11)[j]? = some (Option.map (fun x => x) _); rw [Option.map_id']) (fun j x env S4 hx hJ => ?_) ⟨none, _, rfl, e2, K, rfl, o2⟩ (fun env S4 hJ => ?_)
  · obtain ⟨b, st, rfl, e4, K4, hl4, o4⟩ := hJ
    obtain ⟨hj, rfl⟩ := upTo_at hx
    refine ⟨_, rfl, ?_⟩
    (simp only [evSs, evS, evE, evEs, evO, evK, evI, evD, out_seq, out_then, out_nx, out_rt, out_ite, ev_bind, ev_pure, ev_ofOpt, ev_noExc, ev_alloc, ev_need, ev_ite', List.map, List.replicate, List.length, List.cons_append, List.nil_append, envGet, envSet, envDels, envDel, Option.some.injEq, exists_eq_left', Lit.val])
    obtain ⟨y, gy, ay⟩ := N.at (3 + j) (by omega)
    obtain ⟨y', gy', ay'⟩ := N.at (2 + j) (by omega)
    obtain ⟨y'', gy'', ay''⟩ := N.at ((3 + j) % 2) (by omega)
    have h4 := o4.at hn
    rw [ev_recv (recv_lst rfl e4), ev_idxL h4 (show L2.atI (names.map Val.str) (3 + (j : Int)) = _ by rw [← ay]; congr 1), ev_sub, ev_idxL h4 (show L2.atI (names.map Val.str) (3 + (j : Int) - 1) = some (.str y') by rw [← ay']; congr 1; omega), ev_mod (by decide), ev_idxL h4 (show L2.atI (names.map Val.str) ((3 + (j : Int)).fmod 2) = some (.str y'') by rw [← ay'']; congr 1; rw [Int.fmod_eq_emod_of_nonneg _ (by decide)]; omega)]
    refine ⟨rfl, ?_⟩
    rw [ev_append e4 (by rw [List.length_map]; show _ < 16777216; omega)]
    have mem : ∀ (i : Nat) (z : Str), names[i]? = some z → i < 3 + j → z ∈ st.map (·.o) := by
      intro i z hz hi
      rw [K4.own, hl4]
      exact List.mem_of_getElem? (i := i) (by rw [List.getElem?_take, if_pos hi]; exact hz)
    refine ⟨_, st ++ [⟨Str.ofString "middle", y, [.str y', .str y'']⟩], rfl, ?_, K4.snoc (by rw [hl4]; exact gy) (two_ok (by decide) (mem _ _ gy' (by omega)) (mem _ _ gy'' (by omega))), by simp; omega, o4.set (Nat.le_refl _)⟩
    rw [List.map_append]
    exact set_at e4
  · obtain ⟨b, st, rfl, e4, K4, hl4, o4⟩ := hJ
    rw [upTo_len] at hl4
    (simp only [evSs, evS, evE, evEs, evO, evK, evI, evD, out_seq, out_then, out_nx, out_rt, out_ite, ev_bind, ev_pure, ev_ofOpt, ev_noExc, ev_alloc, ev_need, ev_ite', List.map, List.replicate, List.length, List.cons_append, List.nil_append, envGet, envSet, envDels, envDel, Option.some.injEq, exists_eq_left', Lit.val])
    rw [ev_tuple (lstOf_at e4)]
    exact ⟨st, rfl, by omega, K4, o4.sweep⟩
end K16

namespace K16
open PySem L2 Pd

theorem ev_listS {S : Store} {Q : Val → Store → Prop} {u : Val} {l : List Val} (h : seqOf S u = some l) : Ev (biV .list [u] S) Q = Q (.ref S.length) (S ++ [.lst l]) := by
  show Ev (lstF u S) Q = _
  unfold lstF
  rw [h]; rfl
theorem ev_revL {S : Store} {Q : Val → Store → Prop} {i : Nat} {l : List Val} (h : S[i]? = some (.lst l)) : Ev (revV (.ref i) S) Q = Q (.ref S.length) (S ++ [.lst l.reverse]) := by
  show Ev (revLst i S) Q = _
  unfold revLst
  rw [h]; rfl
theorem deck_ok {k : Nat} {S : Store} {ns : List Int} (h : ns.length ≤ 63) :
    Ev (callF T 64 (k + 1) 3 [.scr ns] S) fun v S' => ∃ d c, v = .ref d ∧ Deck S' d c 0 ∧ Old S S' := by
  (refine ev_call (d := f3) rfl rfl ?_; simp only [f3, evSs, evS, evE, evEs, evO, evK, evI, evD, out_seq, out_then, out_nx, out_rt, out_ite, ev_bind, ev_pure, ev_ofOpt, ev_noExc, ev_alloc, ev_need, ev_ite', List.map, List.replicate, List.length, List.cons_append, List.nil_append, envGet, envSet, envDels, envDel, Option.some.injEq, exists_eq_left', Lit.val])
  rw [show Ev (slcV (.scr ns) none (some 63) S) = fun Q => Q (.ref S.length) (S ++ [Cell.lst (cutL (ns.map Val.int) none (some ((63 : Nat) : Int)))]) from rfl]
  dsimp only
  rw [cut_to, List.take_of_length_le (by rw [List.length_map]; exact h), ev_listS (seqOf_at snoc_new)]
  have e1 : (S ++ [Cell.lst (ns.map Val.int)] ++ [Cell.lst (ns.map Val.int)])[(S ++ [Cell.lst (ns.map Val.int)]).length]? = some (.lst (ns.map Val.int)) := snoc_new
  have o1 : Old S (S ++ [Cell.lst (ns.map Val.int)] ++ [Cell.lst (ns.map Val.int)]) := Old.trans Old.snoc Old.snoc
  have hr : S.length ≤ (S ++ [Cell.lst (ns.map Val.int)]).length := by simp
  generalize (S ++ [Cell.lst (ns.map Val.int)]).length = r at e1 hr ⊢
  generalize (S ++ [Cell.lst (ns.map Val.int)] ++ [Cell.lst (ns.map Val.int)]) = S1 at e1 o1 ⊢
  rw [ev_srcL e1]
  refine out_loop (xs := ns.map Val.int) (fun i x => x) (fun j env S' => S' = S1 ∧ ∃ b x, env = [some (.scr ns), some (.ref r), some (.int x), b]) (len_dyn e1)
    (fun j env S' hJ => by obtain ⟨rfl, _⟩ := hJ; exact at_dyn e1) (fun j x env S4 hx hJ => ?_) ⟨rfl, none, _, rfl⟩ (fun env S4 hJ => ?_)
  · obtain ⟨rfl, b, z, rfl⟩ := hJ
    obtain ⟨n, _, rfl⟩ : ∃ n, ns[j]? = some n ∧ Val.int n = x := by
      rw [List.getElem?_map] at hx
      exact Option.map_eq_some_iff.mp hx
    refine ⟨_, rfl, ?_⟩
    (simp only [evSs, evS, evE, evEs, evO, evK, evI, evD, out_seq, out_then, out_nx, out_rt, out_ite, ev_bind, ev_pure, ev_ofOpt, ev_noExc, ev_alloc, ev_need, ev_ite', List.map, List.replicate, List.length, List.cons_append, List.nil_append, envGet, envSet, envDels, envDel, Option.some.injEq, exists_eq_left', Lit.val])
    rw [ev_mul (small_fits (.inr (by omega))), ev_mod (by decide), ev_add, ev_add, ev_mod (by decide)]
    exact ⟨rfl, _, _, rfl⟩
  · obtain ⟨rfl, b, z, rfl⟩ := hJ
    (simp only [evSs, evS, evE, evEs, evO, evK, evI, evD, out_seq, out_then, out_nx, out_rt, out_ite, ev_bind, ev_pure, ev_ofOpt, ev_noExc, ev_alloc, ev_need, ev_ite', List.map, List.replicate, List.length, List.cons_append, List.nil_append, envGet, envSet, envDels, envDel, Option.some.injEq, exists_eq_left', Lit.val])
    rw [ev_revL e1]
    refine ⟨rfl, ?_⟩
    have hr4 := (List.getElem?_eq_some_iff.mp e1).1
    rw [swept_new (by simp; omega)]
    refine ⟨_, S4.length, rfl, ⟨⟨z, 0, ns.reverse, snoc_new, snoc_old ?_, by simp; omega, by omega, by omega⟩, by simp⟩, o1.trans (Old.trans Old.snoc Old.snoc)⟩
    rw [← List.map_reverse]
    exact snoc_new
end K16

namespace K16
open PySem L2 Pd

/-- small letters -/
structure Low (n : Nat) (x : Str) : Prop where
  len : x.cps.size ≤ n
  low : ∀ c ∈ x.cps.toList, 97 ≤ c ∧ c ≤ 122
theorem Low.ok {n : Nat} {x : Str} (h : Low n x) (hn : n ≤ 100) : PyData.strOk x = true ∧ x.cps.size ≤ 100 := by
  refine ⟨?_, Nat.le_trans h.len hn⟩
  unfold PyData.strOk
  rw [Array.all_eq_true_iff_forall_mem]
  intro c hc
  have := h.low c (Array.mem_toList_iff.mpr hc)
  simp
  omega
theorem Low.up {n n' : Nat} {x : Str} (h : Low n x) (hn : n ≤ n') : Low n' x := ⟨Nat.le_trans h.len hn, h.low⟩
theorem Low.cat {n n' : Nat} {x y : Str} (h : Low n x) (g : Low n' y) : Low (n + n') (x ++ y) := by
  constructor
  · show (x.cps ++ y.cps).size ≤ _
    rw [Array.size_append]
    have := h.len
    have := g.len
    omega
  · intro c hc
    have : c ∈ x.cps.toList ++ y.cps.toList := by
      have : (x ++ y).cps.toList = x.cps.toList ++ y.cps.toList := by
        show (x.cps ++ y.cps).toList = _
        rw [Array.toList_append]
      rw [← this]; exact hc
    rcases List.mem_append.mp this with h1 | h1
    · exact h.low c h1
    · exact g.low c h1
theorem cut_mem {α : Type} {xs : List α} {l h : Option Int} {x : α} (hx : x ∈ cutL xs l h) : x ∈ xs := List.mem_of_mem_drop (List.mem_of_mem_take hx)
theorem cut_len {α : Type} {xs : List α} {l h : Option Int} : (cutL xs l h).length ≤ xs.length := by
  unfold cutL
  rw [List.length_take, List.length_drop]
  omega
theorem Low.cut {n : Nat} {x : Str} (g : Low n x) (l h : Option Int) : Low n ⟨(cutL x.cps.toList l h).toArray⟩ := by
  constructor
  · show (cutL x.cps.toList l h).toArray.size ≤ n
    have := cut_len (xs := x.cps.toList) (l := l) (h := h)
    have e := g.len
    simp only [List.size_toArray]
    simp only [Array.length_toList] at this
    omega
  · intro c hc
    exact g.low c (cut_mem (by simpa using hc))
theorem Low.one {c : Nat} (h : 97 ≤ c ∧ c ≤ 122) : Low 1 ⟨#[c]⟩ := ⟨by simp, fun c' hc => by
  have : c' = c := by simpa using hc
  rw [this]; exact h⟩
def abc : Str := Str.ofString "abcdefghijklmnopqrstuvwxyz"
theorem abc_at {i : Nat} (h : i < 26) : L2.atI abc.cps.toList (i : Nat) = some (97 + i) := by
  have : ∀ i : Fin 26, L2.atI abc.cps.toList ((i : Nat) : Int) = some (97 + (i : Nat)) := by decide +kernel
  exact this ⟨i, h⟩
theorem abc_idx {S : Store} {Q : Val → Store → Prop} {i : Nat} (h : i < 26) : Ev (idxV (.str abc) (.int (i : Nat)) S) Q = Q (.str ⟨#[97 + i]⟩) S := ev_idxS (by decide) (abc_at h)
theorem abc_find {S : Store} {Q : Val → Store → Prop} {c : Nat} (h : 97 ≤ c ∧ c ≤ 122) : Ev (bmV .sindex (.str abc) [.str ⟨#[c]⟩] S) Q = Q (.int ((c - 97 : Nat) : Int)) S := by
  show Ev (sindexV abc ⟨#[c]⟩ S) Q = _
  unfold sindexV
  have : ∀ i : Fin 26, Builtin.Str.occurrences abc ⟨#[97 + (i : Nat)]⟩ 0 abc.length 1 = [(i : Nat)] := by decide +kernel
  have e := this ⟨c - 97, by omega⟩
  rw [show 97 + ((⟨c - 97, by omega⟩ : Fin 26) : Nat) = c by show 97 + (c - 97) = c; omega] at e
  rw [e]
  rfl
end K16

namespace K16
open PySem L2 Pd

theorem cat_list (x y : Str) : (x ++ y).cps.toList = x.cps.toList ++ y.cps.toList := by
  show (x.cps ++ y.cps).toList = _
  rw [Array.toList_append]
def one (c : Nat) : Str := ⟨#[c]⟩
theorem join_ones : ∀ cs : List Nat, (Str.join (Str.ofString "") (cs.map one)).cps.toList = cs
  | [] => rfl
  | [c] => rfl
  | c :: c' :: r => by
    have ih := join_ones (c' :: r)
    show (one c ++ Str.ofString "" ++ Str.join (Str.ofString "") ((c' :: r).map one)).cps.toList = _
    rw [cat_list, cat_list, ih]
    rfl
theorem strs_of : ∀ l : List Str, strsOf (l.map Val.str) = some l
  | [] => rfl
  | x :: l => by
    show (strsOf (l.map Val.str)).map (x :: ·) = _
    rw [strs_of l]; rfl
theorem ev_join1 {S : Store} {Q : Val → Store → Prop} {i : Nat} {cs : List Nat} (h : S[i]? = some (.lst ((cs.map one).map .str))) (hz : cs.length ≤ 100) : Ev (bmV .join (.str (Str.ofString "")) [.ref i] S) Q = Q (.str (Str.join (Str.ofString "") (cs.map one))) S := by
  show Ev (joinV _ _ S) Q = _
  unfold joinV
  rw [seqOf_at h]
  dsimp only
  rw [strs_of]
  dsimp only
  have e : ((cs.map one).map (·.length)).sum = cs.length := by
    clear h hz
    induction cs with
    | nil => rfl
    | cons c cs ih =>
      rw [List.map_cons, List.map_cons, List.sum_cons, ih, List.length_cons]
      show 1 + _ = _
      omega
  rw [e, if_pos (by
    rw [decide_eq_true_eq]
    show cs.length + _ * 0 ≤ 16777216
    omega)]
  show Q (.str (Txt.join _ _)) S = _
  unfold Txt.join
  rw [StrLaws.glued_eq_join]
end K16

namespace K16
open PySem L2 Pd

theorem sub_len {α : Type} [BEq α] [LawfulBEq α] : ∀ {l acc : List α}, l.Nodup → (∀ x ∈ l, x ∈ acc) → l.length ≤ acc.length
  | [], acc, _, _ => Nat.zero_le _
  | x :: l, acc, nd, h => by
    have hx := h x List.mem_cons_self
    obtain ⟨n1, n2⟩ := List.nodup_cons.mp nd
    have := sub_len (l := l) (acc := acc.erase x) n2 fun y hy => (List.mem_erase_of_ne (fun e => n1 (by rw [← e]; exact hy))).mpr (h y (List.mem_cons_of_mem _ hy))
    rw [List.length_erase_of_mem hx] at this
    have := List.length_pos_of_mem hx
    rw [List.length_cons]
    omega
theorem rest_len {more acc : List Str} (nd : more.Nodup) : more.length ≤ (more.filter fun x => !acc.contains x).length + acc.length := by
  have h1 : (more.filter fun x => acc.contains x).length ≤ acc.length := sub_len (nd.sublist List.filter_sublist) fun x hx => by
    have := (List.mem_filter.mp hx).2
    exact List.contains_iff_mem.mp this
  have h2 : more.length = (more.filter fun x => acc.contains x).length + (more.filter fun x => !acc.contains x).length := by
    clear h1 nd
    induction more with
    | nil => rfl
    | cons x l ih =>
      rw [List.filter_cons, List.filter_cons]
      cases acc.contains x
      · simp only [Bool.not_false, if_true, Bool.false_eq_true, if_false, List.length_cons]
        omega
      · simp only [Bool.not_true, if_true, Bool.false_eq_true, if_false, List.length_cons]
        omega
  omega
def More : List Str := [Str.ofString "qa", Str.ofString "qb", Str.ofString "qc", Str.ofString "qd", Str.ofString "qe", Str.ofString "qf", Str.ofString "qg", Str.ofString "qh", Str.ofString "qi", Str.ofString "qj", Str.ofString "qk", Str.ofString "ql", Str.ofString "qm", Str.ofString "qn", Str.ofString "qo", Str.ofString "qp"]
theorem more_ok : More.length = 16 ∧ More.Nodup ∧ ∀ x ∈ More, PyData.strOk x = true ∧ x.cps.size ≤ 100 := by decide +kernel
theorem nms_more {acc : List Str} (nd : acc.Nodup) (ok : ∀ x ∈ acc, Low 100 x) : Nms ((acc ++ More.filter fun x => !acc.contains x).take 16) := by
  obtain ⟨m1, m2, m3⟩ := more_ok
  refine ⟨?_, ?_, ?_⟩
  · rw [List.length_take, List.length_append]
    have := rest_len (acc := acc) m2
    omega
  · refine List.Nodup.sublist (List.take_sublist _ _) ?_
    rw [List.nodup_append]
    refine ⟨nd, m2.sublist List.filter_sublist, fun a ha b hb e => ?_⟩
    have := (List.mem_filter.mp hb).2
    subst e
    rw [List.contains_iff_mem.mpr ha] at this
    cases this
  · intro x hx
    rcases List.mem_append.mp (List.mem_of_mem_take hx) with hx | hx
    · exact (ok x hx).ok (Nat.le_refl _)
    · exact m3 x (List.mem_filter.mp hx).1
def way0 (a : Nat) : List Str := (List.range 16).map fun k => one (97 + (a + 5 * k) % 26)
theorem nms0 {a : Nat} (h : a < 8) : Nms (way0 a) := by
  have : ∀ i : Fin 8, (way0 i).length = 16 ∧ (way0 i).Nodup ∧ ∀ x ∈ way0 i, PyData.strOk x = true ∧ x.cps.size ≤ 100 := by decide +kernel
  obtain ⟨a, b, c⟩ := this ⟨a, h⟩
  exact ⟨a, b, c⟩
def Some1 : List Str := [Str.ofString "line", Str.ofString "free", Str.ofString "at", Str.ofString "row", Str.ofString "on", Str.ofString "circle", Str.ofString "meet", Str.ofString "same", Str.ofString "holds", Str.ofString "a", Str.ofString "none", Str.ofString "ring"]
def way1 (a : Nat) : List Str := (Some1.drop a ++ Some1.take a) ++ [Str.ofString "foot", Str.ofString "p", Str.ofString "turn", Str.ofString "cross"]
theorem nms1 {a : Nat} (h : a < 8) : Nms (way1 a) := by
  have : ∀ i : Fin 8, (way1 i).length = 16 ∧ (way1 i).Nodup ∧ ∀ x ∈ way1 i, PyData.strOk x = true ∧ x.cps.size ≤ 100 := by decide +kernel
  obtain ⟨a, b, c⟩ := this ⟨a, h⟩
  exact ⟨a, b, c⟩
end K16

namespace K16
open PySem L2 Pd

theorem ev_enumL {S : Store} {Q : Src → Store → Prop} {i : Nat} {l : List Val} (h : S[i]? = some (.lst l)) : Ev (enumV (.ref i) S) Q = Q (.enumD i) S := by
  unfold enumV
  dsimp only
  rw [h]; rfl
theorem at_enumD {S : Store} {i k : Nat} {l : List Val} (h : S[i]? = some (.lst l)) : (Src.enumD i).at S k = some (l[k]?.map fun x => .tup [.int (k : Nat), x]) := by
  unfold Src.at
  dsimp only
  rw [h]
theorem len_enumD {S : Store} {i : Nat} {l : List Val} (h : S[i]? = some (.lst l)) : (Src.enumD i).len S = l.length := by
  unfold Src.len
  dsimp only
  rw [h]
theorem ev_slcS {S : Store} {Q : Val → Store → Prop} {x : Str} {l h : Option Int} (hz : x.cps.size ≤ 1000) : Ev (slcV (.str x) l h S) Q = Q (.str ⟨(cutL x.cps.toList l h).toArray⟩) S := by
  show Ev ((if x.length ≤ sizeMax then pure (.str ⟨(cutL x.cps.toList l h).toArray⟩) else stuck : M Val) S) Q = _
  rw [if_pos (by show x.cps.size ≤ 16777216; omega)]; rfl
theorem ev_oi {S : Store} {Q : Option Int → Store → Prop} {i : Int} : Ev ((match (Val.int i) with | .int i => pure (some i) | _ => stuck : M (Option Int)) S) Q = Q (some i) S := rfl
/-- one name in turn, each once -/
structure Uni (found a : List Str) (k : Nat) : Prop where
  nd : a.Nodup
  mem : ∀ x, x ∈ a ↔ x ∈ found.take k
theorem Uni.nil {found : List Str} : Uni found [] 0 := ⟨List.nodup_nil, by simp⟩
theorem take_mem {found : List Str} {k : Nat} {x y : Str} (h : found[k]? = some x) : y ∈ found.take (k + 1) ↔ y ∈ found.take k ∨ y = x := by
  rw [List.take_succ, h]
  simp
theorem Uni.yes {found a : List Str} {k : Nat} {x : Str} (U : Uni found a k) (h : found[k]? = some x) (hc : (found.take k).contains x = false) : Uni found (a ++ [x]) (k + 1) := by
  have hx : x ∉ found.take k := fun m => by rw [List.contains_iff_mem.mpr m] at hc; cases hc
  refine ⟨?_, fun y => ?_⟩
  · rw [List.nodup_append]
    refine ⟨U.nd, by simp, fun p hp q hq e => ?_⟩
    have : q = x := by simpa using hq
    subst this
    subst e
    exact hx ((U.mem _).mp hp)
  · rw [take_mem h, List.mem_append, U.mem]
    simp
theorem Uni.no {found a : List Str} {k : Nat} {x : Str} (U : Uni found a k) (h : found[k]? = some x) (hc : (found.take k).contains x = true) : Uni found a (k + 1) := by
  have hx : x ∈ found.take k := List.contains_iff_mem.mp hc
  refine ⟨U.nd, fun y => ?_⟩
  rw [take_mem h, U.mem]
  constructor
  · exact .inl
  · rintro (m | rfl)
    · exact m
    · exact hx
theorem names_ok {k : Nat} {S : Store} {d c m : Nat} (D : Deck S d c m) (hm : m < 2 ^ 49) :
    Ev (callF T 64 (k + 2) 6 [.ref d] S) fun v S' => ∃ r names, v = .ref r ∧ S.length ≤ r ∧ S'[r]? = some (.lst (names.map .str)) ∧ Nms names ∧ Deck S' d c (m + 10) ∧ Fr S S' d c := by
  have hlt := D.lt
  (refine ev_call (d := f6) rfl rfl ?_; simp only [f6, evSs, evS, evE, evEs, evO, evK, evI, evD, out_seq, out_then, out_nx, out_rt, out_ite, ev_bind, ev_pure, ev_ofOpt, ev_noExc, ev_alloc, ev_need, ev_ite', List.map, List.replicate, List.length, List.cons_append, List.nil_append, envGet, envSet, envDels, envDel, Option.some.injEq, exists_eq_left', Lit.val])
  refine (draw_ok (k := k) D (by omega) (by decide) (by decide)).imp fun v S1 q1 => ?_
  obtain ⟨way, rfl, w0, w1, D1, F1⟩ := q1
  refine (draw_ok (k := k) D1 (by omega) (by decide) (by decide)).imp fun v S2 q2 => ?_
  obtain ⟨at', rfl, a0, a1, D2, F2'⟩ := q2
  have F2 := F1.trans F2'
  clear F1 F2' D1
  obtain ⟨a, rfl⟩ : ∃ a : Nat, at' = (a : Nat) := ⟨at'.toNat, by omega⟩
  have ha : a < 8 := by omega
  rw [ev_recv (by rfl)]
  show Ev (rangeV 0 8 S2) _
  rw [ev_range (by omega) (by omega) (by omega) (by omega)]
  refine ev_lc (xs := Pd.upTo 0 8) (fun i x => x) (fun j acc S' => ∃ cs : List Nat, acc = (cs.map one).map .str ∧ cs.length = j ∧ (∀ c ∈ cs, 97 ≤ c ∧ c ≤ 122) ∧ Deck S' d c (m + 2 + j) ∧ Fr S S' d c) rfl
    (fun j acc S' _ => by show some (Pd.upTo 0 8)[j]? = some (Option.map (fun x => x) _); rw [Option.map_id']) (fun j x acc S3 hx _ hJ => ?_) (by decide) ⟨[], rfl, rfl, by simp, D2, F2⟩ (fun l S3 hJ _ => ?_)
  · obtain ⟨cs, rfl, hl, hcs, D3, F3⟩ := hJ
    obtain ⟨hj, rfl⟩ := upTo_at hx
    refine ⟨_, rfl, ?_⟩
    (simp only [evSs, evS, evE, evEs, evO, evK, evI, evD, out_seq, out_then, out_nx, out_rt, out_ite, ev_bind, ev_pure, ev_ofOpt, ev_noExc, ev_alloc, ev_need, ev_ite', List.map, List.replicate, List.length, List.cons_append, List.nil_append, envGet, envSet, envDels, envDel, Option.some.injEq, exists_eq_left', Lit.val])
    rw [if_pos trivial]
    refine (draw_ok (k := k) D3 (by omega) (by decide) (by decide)).imp fun v S4 q4 => ?_
    obtain ⟨z, rfl, z0, z1, D4, F4⟩ := q4
    obtain ⟨y, rfl⟩ : ∃ y : Nat, z = (y : Nat) := ⟨z.toNat, by omega⟩
    show Ev (idxV (.str abc) (.int (y : Nat)) S4) _
    rw [abc_idx (by omega)]
    refine ⟨cs ++ [97 + y], by simp [one], by simp; omega, fun c hc => ?_, D4, F3.trans F4⟩
    rcases List.mem_append.mp hc with h | h
    · exact hcs c h
    · have : c = 97 + y := by simpa using h
      omega
  obtain ⟨cs, rfl, hl, hcs, D3, F3⟩ := hJ
  rw [upTo_len] at hl D3
  rw [ev_join1 snoc_new (by omega)]
  have D4 := D3.old (Old.snoc (x := Cell.lst ((cs.map one).map .str)))
  have F4 := F3.trans (Old.fr (Old.snoc (x := Cell.lst ((cs.map one).map .str))) d c)
  have hword := join_ones cs
  generalize Str.join (Str.ofString "") (cs.map one) = word at hword ⊢
  have hsz : word.cps.size = 8 := by rw [← Array.length_toList, hword]; exact hl
  have hlow : Low 8 word := ⟨by omega, by rw [hword]; exact hcs⟩
  generalize S3 ++ [Cell.lst ((cs.map one).map .str)] = S4 at D4 F4 ⊢
  clear D3 F3 D2 F2
  rw [ev_eqI, ev_tb]
  by_cases hz : way = 0
  · rw [decide_eq_true hz, if_pos rfl]
    show Ev (rangeV 0 16 S4) _
    rw [ev_range (by omega) (by omega) (by omega) (by omega)]
    refine ev_lc (xs := Pd.upTo 0 16) (fun i x => x) (fun j acc S' => acc = ((way0 a).take j).map .str ∧ S' = S4) rfl
      (fun j acc S' _ => by show some (Pd.upTo 0 16)[j]? = some (Option.map (fun x => x) _); rw [Option.map_id']) (fun j x acc S5 hx _ hJ => ?_) (by decide) ⟨rfl, rfl⟩ (fun l S5 hJ _ => ?_)
    · obtain ⟨rfl, rfl⟩ := hJ
      obtain ⟨hj, rfl⟩ := upTo_at hx
      refine ⟨_, rfl, ?_⟩
      (simp only [evSs, evS, evE, evEs, evO, evK, evI, evD, out_seq, out_then, out_nx, out_rt, out_ite, ev_bind, ev_pure, ev_ofOpt, ev_noExc, ev_alloc, ev_need, ev_ite', List.map, List.replicate, List.length, List.cons_append, List.nil_append, envGet, envSet, envDels, envDel, Option.some.injEq, exists_eq_left', Lit.val])
      rw [if_pos trivial, ev_mul (small_fits (.inl (by omega))), ev_add, ev_mod (by decide)]
      show Ev (idxV (.str abc) _ S5) _
      rw [show ((a : Int) + 5 * (0 + (j : Nat))).fmod 26 = (((a + 5 * j) % 26 : Nat) : Int) by rw [Int.fmod_eq_emod_of_nonneg _ (by decide)]; omega, abc_idx (by omega)]
      refine ⟨?_, rfl⟩
      have e : (way0 a)[j]? = some (one (97 + (a + 5 * j) % 26)) := by
        unfold way0
        rw [List.getElem?_map, List.getElem?_range (by omega)]
        rfl
      rw [List.take_succ, e, List.map_append]
      rfl
    · obtain ⟨rfl, rfl⟩ := hJ
      rw [swept_new F4.1]
      refine ⟨_, way0 a, rfl, F4.1, ?_, nms0 ha, (D4.old Old.snoc).up (by omega), F4.trans (Old.fr Old.snoc d c)⟩
      have e : (way0 a).take (Pd.upTo 0 16).length = way0 a := List.take_of_length_le (by unfold way0; rw [upTo_len]; simp)
      rw [e]
      exact snoc_new
  rw [decide_eq_false hz, if_neg (by simp)]
  rw [ev_eqI, ev_tb]
  by_cases hy : way = 1
  · rw [decide_eq_true hy, if_pos rfl]
    refine ⟨by decide, ?_⟩
    have e1 : (S4 ++ [Cell.lst (Some1.map .str)])[S4.length]? = some (.lst (Some1.map .str)) := snoc_new
    have o1 : Old S4 (S4 ++ [Cell.lst (Some1.map .str)]) := Old.snoc
    have hs : (Some1.map Val.str).length = 12 := rfl
    show Ev (slcV (Val.ref S4.length) (some (a : Int)) none (S4 ++ [Cell.lst (Some1.map .str)])) _
    generalize S4 ++ [Cell.lst (Some1.map .str)] = S5 at e1 o1 ⊢
    rw [ev_slcL e1, cut_from, ev_oi, ev_slcL (snoc_old e1), cut_to, ev_catL (snoc_old snoc_new) snoc_new (by show _ ≤ 16777216; rw [List.length_drop, List.length_take]; omega)]
    refine ⟨by decide, ?_⟩
    rw [ev_catL (snoc_old snoc_new) snoc_new (by show _ ≤ 16777216; rw [List.length_append, List.length_drop, List.length_take]; simp only [List.length_cons, List.length_nil]; omega)]
    have hle : S.length ≤ S5.length := Nat.le_trans F4.1 o1.1
    rw [swept_new (by simp only [List.length_append]; omega)]
    refine ⟨_, way1 a, rfl, by simp only [List.length_append]; omega, ?_, nms1 ha, ?_, ?_⟩
    · rw [snoc_new]
      unfold way1
      rw [List.map_append, List.map_append, List.map_drop, List.map_take]
      rfl
    · exact (D4.old (Old.trans o1 (Old.trans Old.snoc (Old.trans Old.snoc (Old.trans Old.snoc (Old.trans Old.snoc Old.snoc)))))).up (by omega)
    · exact F4.trans (Old.fr (Old.trans o1 (Old.trans Old.snoc (Old.trans Old.snoc (Old.trans Old.snoc (Old.trans Old.snoc Old.snoc))))) d c)
  rw [decide_eq_false hy, if_neg (by simp)]
  refine ⟨by decide, ?_⟩
  have e5 : (S4 ++ [Cell.lst []])[S4.length]? = some (.lst []) := snoc_new
  have o5 : Old S4 (S4 ++ [Cell.lst []]) := Old.snoc
  generalize S4 ++ [Cell.lst []] = S5 at e5 o5 ⊢
  rw [ev_range (by omega) (by omega) (by omega) (by omega)]
  refine out_loop (xs := Pd.upTo 0 16) (fun i x => x) (fun j env S' => ∃ b1 b2 found, env = [some (.ref d), some (.str abc), some (.int way), some (.int (a : Nat)), some (.str word), some (.ref S4.length), b1, none, none, b2, none] ∧ S'[S4.length]? = some (.lst ((found : List Str).map .str)) ∧ found.length = j ∧ (∀ x ∈ found, Low 100 x) ∧ Old S4 S') rfl
    (fun j env S' _ => by show some (Pd.upTo 0 16)[j]? = some (Option.map (fun x => x) _); rw [Option.map_id']) (fun j x env S6 hx hJ => ?_) ⟨none, none, [], rfl, e5, rfl, by simp, o5⟩ (fun env S6 hJ => ?_)
  · obtain ⟨b1, b2, found, rfl, e6, hl6, ok6, o6⟩ := hJ
    obtain ⟨hj, rfl⟩ := upTo_at hx
    refine ⟨_, rfl, ?_⟩
    (simp only [evSs, evS, evE, evEs, evO, evK, evI, evD, out_seq, out_then, out_nx, out_rt, out_ite, ev_bind, ev_pure, ev_ofOpt, ev_noExc, ev_alloc, ev_need, ev_ite', List.map, List.replicate, List.length, List.cons_append, List.nil_append, envGet, envSet, envDels, envDel, Option.some.injEq, exists_eq_left', Lit.val])
    rw [ev_eqI, ev_tb]
    by_cases h2 : way = 2
    · rw [decide_eq_true h2, if_pos rfl]
      rw [ev_recv (recv_lst rfl e6), ev_mod (by decide), ev_add, ev_oi, ev_slcS (by omega), ev_mod (by decide), ev_oi, ev_slcS (by omega)]
      have lA := hlow.cut none (some (1 + (0 + (j : Int)).fmod 8))
      have lB0 := hlow.cut none (some ((0 + (j : Int)).fmod 8))
      generalize (⟨(cutL word.cps.toList none (some (1 + (0 + (j : Int)).fmod 8))).toArray⟩ : Str) = wA at lA ⊢
      generalize (⟨(cutL word.cps.toList none (some ((0 + (j : Int)).fmod 8))).toArray⟩ : Str) = wB at lB0 ⊢
      have lB : Low 9 (Str.ofString "z" ++ wB) := Low.cat (n := 1) (Low.one (c := 122) (by decide)) lB0
      rw [ev_cat (by have := lB0.len; show 1 + wB.cps.size ≤ 16777216; omega)]
      generalize Str.ofString "z" ++ wB = wC at lB ⊢
      refine ⟨rfl, ?_⟩
      rw [ev_fdiv (div_fits (by decide) (by decide))]
      have hq : (0 + (j : Int)).fdiv 8 = 0 ∨ (0 + (j : Int)).fdiv 8 = 1 := by rw [Int.fdiv_eq_ediv_of_nonneg _ (by decide)]; omega
      have hD : ∃ D, L2.atI [Val.str wA, .str wC] ((0 + (j : Int)).fdiv 8) = some (.str D) ∧ Low 100 D := by
        rcases hq with h | h <;> rw [h]
        · exact ⟨wA, rfl, lA.up (by decide)⟩
        · exact ⟨wC, rfl, lB.up (by decide)⟩
      obtain ⟨wD, aD, lD⟩ := hD
      rw [ev_idxL snoc_new aD, ev_append (snoc_old e6) (by rw [List.length_map]; show _ < 16777216; omega)]
      refine ⟨_, _, found ++ [wD], rfl, ?_, by simp; omega, fun x hx => ?_, (Old.trans o6 Old.snoc).set (Nat.le_refl _)⟩
      · rw [List.map_append]
        exact set_at (snoc_old e6)
      · rcases List.mem_append.mp hx with h | h
        · exact ok6 x h
        · have : x = wD := by simpa using h
          rw [this]; exact lD
    · rw [decide_eq_false h2, if_neg (by simp)]
      obtain ⟨c0, hc0⟩ : ∃ c0, cs[a]? = some c0 := ⟨_, List.getElem?_eq_getElem (by omega)⟩
      have h0 : L2.atI word.cps.toList (a : Nat) = some c0 := atI_nat (by rw [hword]; exact hc0)
      have hc1 := hcs c0 (List.mem_of_getElem? hc0)
      rw [ev_recv (by rfl), ev_idxS (by show word.cps.size ≤ 16777216; omega) h0, abc_find hc1, ev_add, ev_mod (by decide), show (((c0 - 97 : Nat) : Int) + (0 + (j : Nat))).fmod 26 = (((c0 - 97 + j) % 26 : Nat) : Int) by rw [Int.fmod_eq_emod_of_nonneg _ (by decide)]; omega, abc_idx (by omega)]
      rw [ev_recv (recv_lst rfl e6), ev_slcS (by omega)]
      have lA := hlow.cut none (some (a : Int))
      generalize (⟨(cutL word.cps.toList none (some (a : Int))).toArray⟩ : Str) = wA at lA ⊢
      have lL := Low.one (c := 97 + (c0 - 97 + j) % 26) (by omega)
      generalize (⟨#[97 + (c0 - 97 + j) % 26]⟩ : Str) = wL at lL ⊢
      have nA := lA.len
      have nL := lL.len
      rw [ev_cat (by show wA.cps.size + wL.cps.size ≤ 16777216; omega), ev_add, ev_oi, ev_slcS (by omega)]
      have lB := hlow.cut (some ((a : Int) + 1)) none
      generalize (⟨(cutL word.cps.toList (some ((a : Int) + 1)) none).toArray⟩ : Str) = wB at lB ⊢
      have lC := lA.cat lL
      generalize wA ++ wL = wC at lC ⊢
      have nB := lB.len
      have nC := lC.len
      have lD := lC.cat lB
      rw [ev_cat (by show wC.cps.size + wB.cps.size ≤ 16777216; omega), ev_append e6 (by rw [List.length_map]; show _ < 16777216; omega)]
      refine ⟨_, _, found ++ [wC ++ wB], rfl, ?_, by simp; omega, fun x hx => ?_, o6.set (Nat.le_refl _)⟩
      · rw [List.map_append]
        exact set_at e6
      · rcases List.mem_append.mp hx with h | h
        · exact ok6 x h
        · have : x = wC ++ wB := by simpa using h
          rw [this]; exact lD.up (by decide)
  · obtain ⟨b1, b2, found, rfl, e6, hl6, ok6, o6⟩ := hJ
    rw [upTo_len] at hl6
    (simp only [evSs, evS, evE, evEs, evO, evK, evI, evD, out_seq, out_then, out_nx, out_rt, out_ite, ev_bind, ev_pure, ev_ofOpt, ev_noExc, ev_alloc, ev_need, ev_ite', List.map, List.replicate, List.length, List.cons_append, List.nil_append, envGet, envSet, envDels, envDel, Option.some.injEq, exists_eq_left', Lit.val])
    rw [ev_enumL e6]
    refine ev_lc (xs := found.map .str) (fun i x => .tup [.int (i : Nat), x]) (fun j acc S' => ∃ A : List Str, acc = A.map .str ∧ Uni found A j ∧ Old S6 S') (len_enumD e6) (fun j acc S' hJ => by obtain ⟨A, _, _, o⟩ := hJ; exact at_enumD (o.at e6))
      (fun j x acc S7 hx _ hJ => ?_) (by rw [List.length_map, hl6]; decide) ⟨[], rfl, .nil, Old.refl _⟩ (fun l S7 hJ _ => ?_)
    · obtain ⟨A, rfl, U, o7⟩ := hJ
      obtain ⟨nm, hnm, rfl⟩ : ∃ nm, found[j]? = some nm ∧ Val.str nm = x := by
        rw [List.getElem?_map] at hx
        exact Option.map_eq_some_iff.mp hx
      refine ⟨_, rfl, ?_⟩
      (simp only [evSs, evS, evE, evEs, evO, evK, evI, evD, out_seq, out_then, out_nx, out_rt, out_ite, ev_bind, ev_pure, ev_ofOpt, ev_noExc, ev_alloc, ev_need, ev_ite', List.map, List.replicate, List.length, List.cons_append, List.nil_append, envGet, envSet, envDels, envDel, Option.some.injEq, exists_eq_left', Lit.val])
      rw [ev_slcL (o7.at e6), cut_to, ← List.map_take, ev_nin (in_strs snoc_new), ev_tb]
      cases hc : (found.take j).contains nm
      · rw [Bool.not_false, if_pos rfl]
        exact ⟨A ++ [nm], by rw [List.map_append]; rfl, U.yes hnm hc, Old.trans o7 Old.snoc⟩
      · rw [Bool.not_true, if_neg (by simp)]
        exact ⟨A, rfl, U.no hnm hc, Old.trans o7 Old.snoc⟩
    · obtain ⟨A, rfl, U, o7⟩ := hJ
      refine ⟨by decide, ?_⟩
      have e8 : (S7 ++ [Cell.lst (A.map Val.str)] ++ [Cell.lst (More.map Val.str)])[S7.length]? = some (.lst (A.map .str)) := snoc_old snoc_new
      have e9 : (S7 ++ [Cell.lst (A.map Val.str)] ++ [Cell.lst (More.map Val.str)])[(S7 ++ [Cell.lst (A.map Val.str)]).length]? = some (.lst (More.map .str)) := snoc_new
      have o8 : Old S4 (S7 ++ [Cell.lst (A.map Val.str)] ++ [Cell.lst (More.map Val.str)]) := Old.trans o6 (Old.trans o7 (Old.trans Old.snoc Old.snoc))
      show Ev (srcV (Val.ref (S7 ++ [Cell.lst (A.map Val.str)]).length) (S7 ++ [Cell.lst (A.map Val.str)] ++ [Cell.lst (More.map Val.str)])) _
      generalize (S7 ++ [Cell.lst (A.map Val.str)]).length = rm at e9 ⊢
      generalize S7 ++ [Cell.lst (A.map Val.str)] ++ [Cell.lst (More.map Val.str)] = S8 at e8 e9 o8 ⊢
      rw [ev_srcL e9]
      refine ev_lc (xs := More.map .str) (fun i x => x) (fun j acc S' => acc = ((More.take j).filter fun x => !A.contains x).map .str ∧ S' = S8) (len_dyn e9) (fun j acc S' hJ => by obtain ⟨_, rfl⟩ := hJ; exact at_dyn e9)
        (fun j x acc S9 hx _ hJ => ?_) (by decide) ⟨rfl, rfl⟩ (fun l S9 hJ _ => ?_)
      · obtain ⟨rfl, rfl⟩ := hJ
        obtain ⟨nm, hnm, rfl⟩ : ∃ nm, More[j]? = some nm ∧ Val.str nm = x := by
          rw [List.getElem?_map] at hx
          exact Option.map_eq_some_iff.mp hx
        refine ⟨_, rfl, ?_⟩
        (simp only [evSs, evS, evE, evEs, evO, evK, evI, evD, out_seq, out_then, out_nx, out_rt, out_ite, ev_bind, ev_pure, ev_ofOpt, ev_noExc, ev_alloc, ev_need, ev_ite', List.map, List.replicate, List.length, List.cons_append, List.nil_append, envGet, envSet, envDels, envDel, Option.some.injEq, exists_eq_left', Lit.val])
        rw [ev_nin (in_strs e8), ev_tb, filter_take _ hnm]
        cases hc : A.contains nm
        · rw [Bool.not_false, if_pos rfl, if_pos rfl, List.map_append]
          exact ⟨rfl, rfl⟩
        · rw [Bool.not_true, if_neg (by simp), if_neg (by simp), List.append_nil]
          exact ⟨rfl, rfl⟩
      · obtain ⟨rfl, rfl⟩ := hJ
        have ht : More.take (More.map Val.str).length = More := List.take_of_length_le (by rw [List.length_map]; exact Nat.le_refl _)
        rw [ht]
        have hA : A.length ≤ 16 := by
          have : A.length ≤ found.length := sub_len U.nd fun x hx => List.mem_of_mem_take ((U.mem x).mp hx)
          omega
        have hF : (More.filter fun x => !A.contains x).length ≤ 16 := Nat.le_trans (List.length_filter_le _ _) (by decide)
        rw [ev_catL (snoc_old e8) snoc_new (by rw [List.length_map, List.length_map]; show _ ≤ 16777216; omega)]
        rw [show (some 16 : Option Int) = some ((16 : Nat) : Int) from rfl, ev_slcL snoc_new, cut_to, ← List.map_append, ← List.map_take]
        rw [swept_new (by have := o8.1; have := F4.1; simp only [List.length_append]; omega)]
        refine ⟨_, _, rfl, by have := o8.1; have := F4.1; simp only [List.length_append]; omega, snoc_new, nms_more U.nd fun x hx => ok6 x (List.mem_of_mem_take ((U.mem x).mp hx)), ?_, ?_⟩
        · exact (D4.old (Old.trans o8 (Old.trans Old.snoc (Old.trans Old.snoc Old.snoc)))).up (by omega)
        · exact F4.trans (Old.fr (Old.trans o8 (Old.trans Old.snoc (Old.trans Old.snoc Old.snoc))) d c)
end K16

namespace K16
open PySem L2 Pd

theorem ev_intBB {S : Store} {Q : Val → Store → Prop} {b : Bool} : Ev (biV .int [.bl b] S) Q = Q (.int (if b then 1 else 0)) S := rfl
theorem law_ok {ns : List Int} (h : ns.length ≤ 63) : Ev (callF T 64 12 17 [.scr ns] []) fun v _ => v = .bl true := by
  (refine ev_call (d := f17) rfl rfl ?_; simp only [f17, evSs, evS, evE, evEs, evO, evK, evI, evD, out_seq, out_then, out_nx, out_rt, out_ite, ev_bind, ev_pure, ev_ofOpt, ev_noExc, ev_alloc, ev_need, ev_ite', List.map, List.replicate, List.length, List.cons_append, List.nil_append, envGet, envSet, envDels, envDel, Option.some.injEq, exists_eq_left', Lit.val])
  refine (deck_ok (k := 10) h).imp fun v S1 q1 => ?_
  obtain ⟨d, c, rfl, D1, _⟩ := q1
  rw [ev_range (by omega) (by omega) (by omega) (by omega)]
  refine out_loop (xs := Pd.upTo 0 6) (fun i x => x) (fun j env S' => ∃ b bn bs, env = [some (.scr ns), some (.ref d), b, bn, bs] ∧ Deck S' d c (200 * j) ∧ (0 < j → ∃ rn names, bn = some (.ref rn) ∧ S'[rn]? = some (.lst ((names : List Str).map .str)) ∧ Nms names ∧ rn ≠ d ∧ rn ≠ c)) rfl
    (fun j env S' _ => by show some (Pd.upTo 0 6)[j]? = some (Option.map (fun x => x) _); rw [Option.map_id']) (fun j x env S2 hx hJ => ?_) ⟨none, none, none, rfl, D1, fun h => absurd h (by omega)⟩ (fun env S2 hJ => ?_)
  · obtain ⟨b, bn, bs, rfl, D2, _⟩ := hJ
    obtain ⟨hj, rfl⟩ := upTo_at hx
    refine ⟨_, rfl, ?_⟩
    (simp only [evSs, evS, evE, evEs, evO, evK, evI, evD, out_seq, out_then, out_nx, out_rt, out_ite, ev_bind, ev_pure, ev_ofOpt, ev_noExc, ev_alloc, ev_need, ev_ite', List.map, List.replicate, List.length, List.cons_append, List.nil_append, envGet, envSet, envDels, envDel, Option.some.injEq, exists_eq_left', Lit.val])
    have lt2 := D2.lt
    refine (names_ok (k := 9) D2 (by omega)).imp fun v S3 q3 => ?_
    obtain ⟨rn, names, rfl, hr, e3, N, D3, F3⟩ := q3
    refine (draw_ok (k := 10) D3 (by omega) (by decide) (by decide)).imp fun v S4 q4 => ?_
    obtain ⟨z, rfl, z0, z1, D4, F4⟩ := q4
    rw [ev_add]
    refine ⟨rfl, ?_⟩
    rw [ev_gt, ev_intBB]
    obtain ⟨many, hm, m1, m2⟩ : ∃ many : Nat, L2.atI [Val.int 14, Val.int (2 + z)] (if decide ((0 : Int) < 0 + (j : Nat)) then 1 else 0) = some (.int (many : Nat)) ∧ 1 ≤ many ∧ many ≤ 14 := by
      by_cases hj0 : (0 : Int) < 0 + (j : Nat)
      · rw [decide_eq_true hj0, if_pos rfl]
        exact ⟨(2 + z).toNat, by rw [show (((2 + z).toNat : Nat) : Int) = 2 + z by omega]; rfl, by omega, by omega⟩
      · rw [decide_eq_false hj0, if_neg (by simp)]
        exact ⟨14, rfl, by omega, by omega⟩
    rw [ev_idxL snoc_new hm]
    have D5 := D4.old (Old.snoc (x := Cell.lst [Val.int 14, Val.int (2 + z)]))
    have e5 := snoc_old (x := Cell.lst [Val.int 14, Val.int (2 + z)]) (F4.at e3 (by omega) (by omega))
    generalize S4 ++ [Cell.lst [Val.int 14, Val.int (2 + z)]] = S5 at D5 e5 ⊢
    refine (words_ok (k := 10)).imp fun v S6 q6 => ?_
    obtain ⟨rw', rfl, hw1, hw2, o6⟩ := q6
    have lt5 := D5.lt
    refine (sketch_ok (k := 7) (D5.old o6) (by omega) (o6.at e5) hw2 (by omega) (by omega) (by omega) (by omega) N m1 m2).imp fun v S7 q7 => ?_
    obtain ⟨steps, rfl, hs, K, D7, F7⟩ := q7
    refine (law_right_ok (k := 7) D7 (by omega) (K.fine N) (K.plain N) (K.good N) (K.brief N) hs).imp fun v S8 q8 => ?_
    obtain ⟨rfl, D8, F8⟩ := q8
    rw [ev_tb, ev_tb]
    rw [Bool.not_true, if_neg (by simp)]
    exact ⟨_, _, _, rfl, D8.up (by omega), fun _ => ⟨rn, names, rfl, F8.at (F7.at (o6.at e5) (by omega) (by omega)) (by omega) (by omega), N, by omega, by omega⟩⟩
  · obtain ⟨b, bn, bs, rfl, D2, hN⟩ := hJ
    rw [upTo_len] at D2 hN
    obtain ⟨rn, names, rfl, e2, N, n1, n2⟩ := hN (by decide)
    (simp only [evSs, evS, evE, evEs, evO, evK, evI, evD, out_seq, out_then, out_nx, out_rt, out_ite, ev_bind, ev_pure, ev_ofOpt, ev_noExc, ev_alloc, ev_need, ev_ite', List.map, List.replicate, List.length, List.cons_append, List.nil_append, envGet, envSet, envDels, envDel, Option.some.injEq, exists_eq_left', Lit.val])
    have lt2 := D2.lt
    refine (chain_ok (k := 10) e2 N).imp fun v S3 q3 => ?_
    obtain ⟨steps, rfl, hs, K, o3⟩ := q3
    refine (law_right_ok (k := 7) (D2.old o3) (by omega) (K.fine N) (K.plain N) (K.good N) (K.brief N) (by omega)).imp fun v S4 q4 => ?_
    obtain ⟨rfl, D4, F4⟩ := q4
    rw [ev_tb, if_pos rfl]
    refine (chain_ok (k := 10) (F4.at (o3.at e2) n1 n2) N).imp fun v S5 q5 => ?_
    obtain ⟨steps', rfl, hs', K', o5⟩ := q5
    rw [show (some 2 : Option Int) = some ((2 : Nat) : Int) from rfl, slc_tup, cut_to, ← List.map_take]
    have K2 := K'.take 2
    refine (law_right_ok (k := 7) (D4.old o5) (by omega) (K2.fine N) (K2.plain N) (K2.good N) (K2.brief N) (by rw [List.length_take]; omega)).imp fun v S6 q6 => ?_
    exact q6.1
theorem law_holds (ns : List Int) (h : ns.length ≤ 63) : ∃ S, callF T 64 12 17 [.scr ns] [] = .ok (.bl true) S := by
  obtain ⟨a, S, e, rfl⟩ := (law_ok h).get
  exact ⟨S, e⟩
end K16

namespace K16
open PySem L2 Pd
end K16
namespace K16
open PySem L2 Pd
theorem walk {l : PySem.W.OpenLaw} {q : Program} {loose : List Str} {XP : (Str → Option Value) → Heap → Prop} {YP : World → Heap → Prop} {d : DefRec} {K : Params → PySem.W.Frag} (hn : l.most = some 63) (hdf : d.params.defaults = []) (hnm : d.name = "law") (hY : ∀ (w : World) (h : Heap), YP w h → (K w.params).In h)
    (F : ∀ (w : World) (mg : Str → Option Value) (h : Heap), (K w.params).In h → h.Ns mainGlobals mg → TextOk l.prog w (plainW (K w.params)) mg T) : PySem.W.WalkO q loose XP YP l.row.toRowW d [] (fun f vs => PySem.call f vs) :=
  law_walk (n := 63) (k := 12) (fuel := 64) (li := 17) (x := "script") (W := plainW) hn (by decide) hdf ⟨rfl, by decide, by decide⟩ hY (fun _ => rfl) rfl (by rw [hnm]; rfl) rfl rfl (fun w mg _ h KX G _ => F w mg h KX G) fun ns hl => law_holds ns hl
end K16
open PySem PySem.W PyProof.Rows
set_option maxRecDepth 100000 in
set_option maxHeartbeats 0 in
theorem PySem.Challenge.cw_pointhalls_k16_what_hangs_on_what_holds : PySem.Challenge.rw_pointhalls_k16_what_hangs_on_what.Holds := by
  w_on; o_law; k_head; (case hw => w_witness2)
  k_fill
  refine K16.walk (l := PySem.Challenge.rw_pointhalls_k16_what_hangs_on_what) rfl rfl rfl (fun w h Y => PySem.W.kIn_of Y) ?F
  case F =>
    intro w mg h KX G
    refine' K16.all_mk KX G ?a0 ?l0 ?m0 ?k0 ?a1 ?l1 ?m1 ?k1 ?a2 ?l2 ?m2 ?k2 ?a3 ?l3 ?m3 ?k3 ?a4 ?l4 ?m4 ?k4 ?a5 ?l5 ?m5 ?k5 ?a6 ?l6 ?m6 ?k6 ?a7 ?l7 ?m7 ?k7 ?a8 ?l8 ?m8 ?k8 ?a9 ?l9 ?m9 ?k9 ?a10 ?l10 ?m10 ?k10 ?a11 ?l11 ?m11 ?k11 ?a12 ?l12 ?m12 ?k12 ?a13 ?l13 ?m13 ?k13 ?a14 ?l14 ?m14 ?k14 ?a15 ?l15 ?m15 ?k15 ?a16 ?l16 ?m16 ?k16 ?a17 ?l17 ?m17 ?k17 ?z0 ?z1 ?z2 ?z3 ?z4 ?z5 ?z6 ?z7 ?z8 ?z9 ?z10
    (case a0 => k_is)
    (case l0 => k_is)
    (case m0 => k_is)
    (case k0 => k_is)
    (case a1 => k_is)
    (case l1 => k_is)
    (case m1 => k_is)
    (case k1 => k_is)
    (case a2 => k_is)
    (case l2 => k_is)
    (case m2 => k_is)
    (case k2 => k_is)
    (case a3 => k_is)
    (case l3 => k_is)
    (case m3 => k_is)
    (case k3 => k_is)
    (case a4 => k_is)
    (case l4 => k_is)
    (case m4 => k_is)
    (case k4 => k_is)
    (case a5 => k_is)
    (case l5 => k_is)
    (case m5 => k_is)
    (case k5 => k_is)
    (case a6 => k_is)
    (case l6 => k_is)
    (case m6 => k_is)
    (case k6 => k_is)
    (case a7 => k_is)
    (case l7 => k_is)
    (case m7 => k_is)
    (case k7 => k_is)
    (case a8 => k_is)
    (case l8 => k_is)
    (case m8 => k_is)
    (case k8 => k_is)
    (case a9 => k_is)
    (case l9 => k_is)
    (case m9 => k_is)
    (case k9 => k_is)
    (case a10 => k_is)
    (case l10 => k_is)
    (case m10 => k_is)
    (case k10 => k_is)
    (case a11 => k_is)
    (case l11 => k_is)
    (case m11 => k_is)
    (case k11 => k_is)
    (case a12 => k_is)
    (case l12 => k_is)
    (case m12 => k_is)
    (case k12 => k_is)
    (case a13 => k_is)
    (case l13 => k_is)
    (case m13 => k_is)
    (case k13 => k_is)
    (case a14 => k_is)
    (case l14 => k_is)
    (case m14 => k_is)
    (case k14 => k_is)
    (case a15 => k_is)
    (case l15 => k_is)
    (case m15 => k_is)
    (case k15 => k_is)
    (case a16 => k_is)
    (case l16 => k_is)
    (case m16 => k_is)
    (case k16 => k_is)
    (case a17 => k_is)
    (case l17 => k_is)
    (case m17 => k_is)
    (case k17 => k_is)
    (case z0 => k_is)
    (case z1 => k_is)
    (case z2 => k_is)
    (case z3 => k_is)
    (case z4 => k_is)
    (case z5 => k_is)
    (case z6 => k_is)
    (case z7 => k_is)
    (case z8 => k_is)
    (case z9 => k_is)
    (case z10 => k_is)

