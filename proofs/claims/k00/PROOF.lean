import PyProof.Rows.All
import Wide.All
import OpenK.AllK
import Wide.FinOn
import HandS.ForMost
import HandS.Wide
import HandS.Exc
import HandS.More
import HandS.MakeKwOnly
import HandS.ExcInit
import HandS.ExcField
import HandS.ExcIs
import HandS.ClsMeth
import KE.KExcIs
import HandS.IsInst
import HandS.Small
import HandS.Flow
import HandS.TupAny
import HandS.Text
import HandS.Style
import HandS.WideBits
import HandS.RaiseMore
import HandS.Dict
import PyProof.ReprRoads
import HandS.Conv
import PyProof.ListStr
import HandS.Iter
import HandS.Replace
import HandS.NoneIn
import KE.GoesEnum
import KE.GoesEnumKw
import KE.GoesZip
import HandS.Zip
import KE.GoesMore
import HandS.DictComp
import HandS.SetBool
import HandS.SetKeys
import HandS.Strs
import KE.KUnpackStar
import HandS.Words
import HandS.Defaults
import PySem.Challenge.RW_pointhalls_k00_exacts_made_and_refused
set_option Elab.async false
set_option linter.all false
set_option maxRecDepth 100000
set_option autoImplicit false
/-! Pd, part 1: plain data, a store of things that change, and how they stand in the hand layer's heap. -/
namespace Pd
open PySem L2

/-- a value: what never changes is a tree; what may change is a number in the store -/
inductive Val where
  | non | bl (b : Bool) | int (i : Int) | str (x : Str)
  | tup (xs : List Val)
  | ins (c : Nat) (fs : List Val)
  | scr (ns : List Int)
  | ref (i : Nat)

/-- keys of dicts -/
abbrev DKey := Sum Int Str

inductive Cell where
  | lst (xs : List Val)
  | dct (kvs : List (DKey × Val))
  | dtt (kvs : List (List DKey × Val))
  | obj (c : Nat) (fs : List (Str × Val))

abbrev Store := List Cell
abbrev Env := List (Option Val)

/-- an exception: its class's number, its fields -/
structure Exn where
  cls : Nat
  fs : List (Str × Val)

inductive Res (α : Type) where
  | ok (a : α) (S : Store)
  | exc (x : Exn) (S : Store)
  | bad

def M (α : Type) := Store → Res α
@[inline] def M.pure {α : Type} (a : α) : M α := fun S => .ok a S
@[inline] def M.bind {α β : Type} (m : M α) (f : α → M β) : M β := fun S => match m S with
  | .ok a S' => f a S'
  | .exc x S' => .exc x S'
  | .bad => .bad
instance : Monad M where
  pure := M.pure
  bind := M.bind
def stuck {α : Type} : M α := fun _ => .bad
def need (b : Bool) : M Unit := fun S => if b then .ok () S else .bad
def ofOpt {α : Type} (o : Option α) : M α := fun S => match o with
  | some a => .ok a S
  | none => .bad

/-! ### the world: the written part, the classes -/
structure Wd where
  K : PySem.W.Frag
  cls : Nat → Option (Addr × List Str)
  exc : Nat → Option Addr

/-- a tuple that never changes: tracked apart from the store, or of the module -/
def StT (w : Wd) (ρ : List Addr) (H : Hp) (a : Addr) (vs : List V) : Prop :=
  (a ∉ ρ ∧ Rd H a (.tup vs)) ∨
    ∃ (o : Obj) (its : Array Value) (n : Nat), w.K.lookup a = some o ∧ o.cls = .type "tuple" ∧ o.data = .seq its n ∧ its.size ≤ sizeLine ∧ Vals vs its.toList
def StL (w : Wd) (ρ : List Addr) (H : Hp) (a : Addr) (vs : List V) : Prop :=
  (a ∉ ρ ∧ ∃ o, H a = some (.frz o (.lst vs))) ∨
    ∃ (o : Obj) (its : Array Value) (n : Nat), w.K.lookup a = some o ∧ o.cls = .type "list" ∧ o.dict = none ∧ o.data = .seq its n ∧ its.size ≤ sizeLine ∧ Vals vs its.toList

mutual
def RepV (w : Wd) (ρ : List Addr) (H : Hp) : Val → V → Prop
  | .non, v => v = .non
  | .bl b, v => v = .bl b
  | .int i, v => v = .int i
  | .str x, v => v = .str x
  | .tup xs, v => ∃ a vs, v = .ref a ∧ StT w ρ H a vs ∧ RepVs w ρ H xs vs
  | .ins c fs, v => ∃ p C dx ns vs, v = .ref p ∧ w.cls c = some (C, ns) ∧ p ∉ ρ ∧ H p = some (.ins C dx (ns.zip vs)) ∧ ns.length = vs.length ∧ RepVs w ρ H fs vs
  | .scr ns, v => ∃ a, v = .ref a ∧ StL w ρ H a (ns.map V.int)
  | .ref i, v => ∃ a, v = .ref a ∧ ρ[i]? = some a
def RepVs (w : Wd) (ρ : List Addr) (H : Hp) : List Val → List V → Prop
  | [], vs => vs = []
  | x :: xs, vs => ∃ v r, vs = v :: r ∧ RepV w ρ H x v ∧ RepVs w ρ H xs r
end

/-- pairs with the same first parts -/
def RepKV {κ : Type} (w : Wd) (ρ : List Addr) (H : Hp) : List (κ × Val) → List (κ × V) → Prop
  | [], vs => vs = []
  | (k, x) :: xs, vs => ∃ v r, vs = (k, v) :: r ∧ RepV w ρ H x v ∧ RepKV w ρ H xs r

def RepC (w : Wd) (ρ : List Addr) (H : Hp) : Cell → HO → Prop
  | .lst xs, o => ∃ vs, o = .lst vs ∧ RepVs w ρ H xs vs
  | .dct kvs, o => ∃ vs, o = .dK vs ∧ RepKV w ρ H kvs vs
  | .dtt kvs, o => ∃ vs, o = .dT vs ∧ RepKV w ρ H kvs vs
  | .obj c fs, o => ∃ C dx ns vs, o = .ins C dx vs ∧ w.cls c = some (C, ns) ∧ RepKV w ρ H fs vs

structure RepS (w : Wd) (ρ : List Addr) (H : Hp) (S : Store) : Prop where
  len : ρ.length = S.length
  nd : ρ.Nodup
  cell : ∀ (i : Nat) (a : Addr) (c : Cell), ρ[i]? = some a → S[i]? = some c → ∃ o, H a = some o ∧ RepC w ρ H c o

/-- the heap and the store's places, later -/
structure Ext (ρ : List Addr) (H : Hp) (ρ' : List Addr) (H' : Hp) : Prop where
  pre : ∃ more, ρ' = ρ ++ more ∧ ∀ a ∈ more, H a = none
  oth : ∀ a o, H a = some o → a ∉ ρ → H' a = some o
  mono : ∀ a o, H a = some o → ∃ o', H' a = some o'

theorem Ext.refl (ρ : List Addr) (H : Hp) : Ext ρ H ρ H := ⟨⟨[], by simp, fun _ h => nomatch h⟩, fun _ _ h _ => h, fun _ o h => ⟨o, h⟩⟩
theorem Ext.out {ρ ρ' : List Addr} {H H' : Hp} (e : Ext ρ H ρ' H') {a : Addr} {o : HO} (h : H a = some o) (n : a ∉ ρ) : a ∉ ρ' := by
  obtain ⟨m, rfl, hm⟩ := e.pre
  intro z
  rcases List.mem_append.mp z with z | z
  · exact n z
  · rw [hm a z] at h; cases h
theorem Ext.trans {ρ ρ1 ρ2 : List Addr} {H H1 H2 : Hp} (e : Ext ρ H ρ1 H1) (f : Ext ρ1 H1 ρ2 H2) : Ext ρ H ρ2 H2 := by
  refine ⟨?_, fun a o h n => f.oth a o (e.oth a o h n) (e.out h n), fun a o h => ?_⟩
  · obtain ⟨m, rfl, hm⟩ := e.pre
    obtain ⟨m2, rfl, hm2⟩ := f.pre
    refine ⟨m ++ m2, by simp, fun a ha => ?_⟩
    rcases List.mem_append.mp ha with z | z
    · exact hm a z
    · cases q : H a with
      | none => rfl
      | some o =>
        obtain ⟨o', h'⟩ := e.mono a o q
        rw [hm2 a z] at h'; cases h'
  · obtain ⟨o1, h1⟩ := e.mono a o h
    exact f.mono a o1 h1

theorem StT.ext {w : Wd} {ρ ρ' : List Addr} {H H' : Hp} {a : Addr} {vs : List V} (e : Ext ρ H ρ' H') (h : StT w ρ H a vs) : StT w ρ' H' a vs := by
  rcases h with ⟨n, h | ⟨o, h⟩⟩ | h
  · exact .inl ⟨e.out h n, .inl (e.oth _ _ h n)⟩
  · exact .inl ⟨e.out h n, .inr ⟨o, e.oth _ _ h n⟩⟩
  · exact .inr h
theorem StL.ext {w : Wd} {ρ ρ' : List Addr} {H H' : Hp} {a : Addr} {vs : List V} (e : Ext ρ H ρ' H') (h : StL w ρ H a vs) : StL w ρ' H' a vs := by
  rcases h with ⟨n, o, h⟩ | h
  · exact .inl ⟨e.out h n, o, e.oth _ _ h n⟩
  · exact .inr h
theorem StT.sq {w : Wd} {ρ : List Addr} {H : Hp} {a : Addr} {vs : List V} (h : StT w ρ H a vs) : SqT w.K H a vs := by
  rcases h with ⟨_, h⟩ | h
  · exact .inl h
  · exact .inr h
theorem StL.sq {w : Wd} {ρ : List Addr} {H : Hp} {a : Addr} {vs : List V} (h : StL w ρ H a vs) : SqL w.K H a vs := by
  rcases h with ⟨_, h⟩ | h
  · exact .inl (.inr h)
  · exact .inr h

mutual
theorem RepV.ext {w : Wd} {ρ ρ' : List Addr} {H H' : Hp} (e : Ext ρ H ρ' H') : ∀ (x : Val) (v : V), RepV w ρ H x v → RepV w ρ' H' x v
  | .non, _, h => by simpa only [RepV] using h
  | .bl _, _, h => by simpa only [RepV] using h
  | .int _, _, h => by simpa only [RepV] using h
  | .str _, _, h => by simpa only [RepV] using h
  | .tup xs, v, h => by
    simp only [RepV] at h ⊢
    obtain ⟨a, vs, h1, h2, h3⟩ := h
    exact ⟨a, vs, h1, h2.ext e, RepVs.ext e xs vs h3⟩
  | .ins c fs, v, h => by
    simp only [RepV] at h ⊢
    obtain ⟨p, C, dx, ns, vs, h1, h2, h3, h4, h5, h6⟩ := h
    exact ⟨p, C, dx, ns, vs, h1, h2, e.out h4 h3, e.oth _ _ h4 h3, h5, RepVs.ext e fs vs h6⟩
  | .scr ns, v, h => by
    simp only [RepV] at h ⊢
    obtain ⟨a, h1, h2⟩ := h
    exact ⟨a, h1, h2.ext e⟩
  | .ref i, v, h => by
    simp only [RepV] at h ⊢
    obtain ⟨a, h1, h2⟩ := h
    obtain ⟨m, rfl, _⟩ := e.pre
    refine ⟨a, h1, ?_⟩
    have hi : i < ρ.length := (List.getElem?_eq_some_iff.mp h2).1
    rw [List.getElem?_append_left hi]; exact h2
theorem RepVs.ext {w : Wd} {ρ ρ' : List Addr} {H H' : Hp} (e : Ext ρ H ρ' H') : ∀ (xs : List Val) (vs : List V), RepVs w ρ H xs vs → RepVs w ρ' H' xs vs
  | [], _, h => by simpa only [RepVs] using h
  | x :: xs, vs, h => by
    simp only [RepVs] at h ⊢
    obtain ⟨v, r, h1, h2, h3⟩ := h
    exact ⟨v, r, h1, RepV.ext e x v h2, RepVs.ext e xs r h3⟩
end
theorem RepKV.ext {κ : Type} {w : Wd} {ρ ρ' : List Addr} {H H' : Hp} (e : Ext ρ H ρ' H') : ∀ (xs : List (κ × Val)) (vs : List (κ × V)), RepKV w ρ H xs vs → RepKV w ρ' H' xs vs
  | [], _, h => by simpa only [RepKV] using h
  | (k, x) :: xs, vs, h => by
    simp only [RepKV] at h ⊢
    obtain ⟨v, r, h1, h2, h3⟩ := h
    exact ⟨v, r, h1, RepV.ext e x v h2, RepKV.ext e xs r h3⟩
theorem RepC.ext {w : Wd} {ρ ρ' : List Addr} {H H' : Hp} (e : Ext ρ H ρ' H') : ∀ (c : Cell) (o : HO), RepC w ρ H c o → RepC w ρ' H' c o
  | .lst xs, o, ⟨vs, h1, h2⟩ => ⟨vs, h1, RepVs.ext e xs vs h2⟩
  | .dct xs, o, ⟨vs, h1, h2⟩ => ⟨vs, h1, RepKV.ext e xs vs h2⟩
  | .dtt xs, o, ⟨vs, h1, h2⟩ => ⟨vs, h1, RepKV.ext e xs vs h2⟩
  | .obj c fs, o, ⟨C, dx, ns, vs, h1, h2, h3⟩ => ⟨C, dx, ns, vs, h1, h2, RepKV.ext e fs vs h3⟩

theorem RepVs.length {w : Wd} {ρ : List Addr} {H : Hp} : ∀ {xs : List Val} {vs : List V}, RepVs w ρ H xs vs → vs.length = xs.length
  | [], _, h => by simp only [RepVs] at h; subst h; rfl
  | x :: xs, _, h => by
    simp only [RepVs] at h
    obtain ⟨v, r, rfl, _, h3⟩ := h
    simp [RepVs.length h3]
theorem RepVs.get {w : Wd} {ρ : List Addr} {H : Hp} : ∀ {xs : List Val} {vs : List V} {i : Nat} {x : Val}, RepVs w ρ H xs vs → xs[i]? = some x → ∃ v, vs[i]? = some v ∧ RepV w ρ H x v
  | [], _, _, _, _, e => by simp at e
  | x :: xs, _, 0, y, h, e => by
    simp only [RepVs] at h
    obtain ⟨v, r, rfl, h2, _⟩ := h
    simp at e; subst e
    exact ⟨v, by simp, h2⟩
  | x :: xs, _, i + 1, y, h, e => by
    simp only [RepVs] at h
    obtain ⟨v, r, rfl, _, h3⟩ := h
    obtain ⟨u, h1, h2⟩ := RepVs.get (i := i) h3 (by simpa using e)
    exact ⟨u, by simpa using h1, h2⟩
theorem RepVs.append {w : Wd} {ρ : List Addr} {H : Hp} : ∀ {xs : List Val} {vs : List V} {ys : List Val} {us : List V}, RepVs w ρ H xs vs → RepVs w ρ H ys us → RepVs w ρ H (xs ++ ys) (vs ++ us)
  | [], _, _, _, h, g => by simp only [RepVs] at h; subst h; simpa using g
  | x :: xs, _, _, _, h, g => by
    simp only [RepVs] at h
    obtain ⟨v, r, rfl, h2, h3⟩ := h
    simp only [List.cons_append, RepVs]
    exact ⟨v, _, rfl, h2, RepVs.append h3 g⟩
theorem RepVs.take {w : Wd} {ρ : List Addr} {H : Hp} : ∀ {xs : List Val} {vs : List V} (n : Nat), RepVs w ρ H xs vs → RepVs w ρ H (xs.take n) (vs.take n)
  | [], _, n, h => by simp only [RepVs] at h; subst h; simp [RepVs]
  | x :: xs, _, 0, h => by simp [RepVs]
  | x :: xs, _, n + 1, h => by
    simp only [RepVs] at h
    obtain ⟨v, r, rfl, h2, h3⟩ := h
    simp only [List.take_succ_cons, RepVs]
    exact ⟨v, _, rfl, h2, RepVs.take n h3⟩
theorem RepVs.drop {w : Wd} {ρ : List Addr} {H : Hp} : ∀ {xs : List Val} {vs : List V} (n : Nat), RepVs w ρ H xs vs → RepVs w ρ H (xs.drop n) (vs.drop n)
  | [], _, n, h => by simp only [RepVs] at h; subst h; simp [RepVs]
  | x :: xs, _, 0, h => by simpa using h
  | x :: xs, _, n + 1, h => by
    simp only [RepVs] at h
    obtain ⟨v, r, rfl, h2, h3⟩ := h
    simpa using RepVs.drop n h3
theorem RepVs.set {w : Wd} {ρ : List Addr} {H : Hp} {y : Val} {u : V} (q : RepV w ρ H y u) : ∀ {xs : List Val} {vs : List V} (i : Nat), RepVs w ρ H xs vs → RepVs w ρ H (xs.set i y) (vs.set i u)
  | [], _, i, h => by simp only [RepVs] at h; subst h; simp [RepVs]
  | x :: xs, _, 0, h => by
    simp only [RepVs] at h
    obtain ⟨v, r, rfl, h2, h3⟩ := h
    simp only [List.set_cons_zero, RepVs]
    exact ⟨u, r, rfl, q, h3⟩
  | x :: xs, _, i + 1, h => by
    simp only [RepVs] at h
    obtain ⟨v, r, rfl, h2, h3⟩ := h
    simp only [List.set_cons_succ, RepVs]
    exact ⟨v, _, rfl, h2, RepVs.set q i h3⟩
theorem RepVs.reverse {w : Wd} {ρ : List Addr} {H : Hp} : ∀ {xs : List Val} {vs : List V}, RepVs w ρ H xs vs → RepVs w ρ H xs.reverse vs.reverse
  | [], _, h => by simp only [RepVs] at h; subst h; simp [RepVs]
  | x :: xs, _, h => by
    simp only [RepVs] at h
    obtain ⟨v, r, rfl, h2, h3⟩ := h
    simp only [List.reverse_cons]
    refine RepVs.append (RepVs.reverse h3) ?_
    simp only [RepVs]
    exact ⟨v, [], rfl, h2, rfl⟩
theorem RepVs.ints {w : Wd} {ρ : List Addr} {H : Hp} : ∀ (ns : List Int), RepVs w ρ H (ns.map Val.int) (ns.map V.int)
  | [] => by simp [RepVs]
  | n :: ns => by
    simp only [List.map_cons, RepVs]
    exact ⟨_, _, rfl, by simp [RepV], RepVs.ints ns⟩

/-! ### the store's steps -/
section
variable {w : Wd} {ρ : List Addr} {H : Hp} {S : Store}
theorem RepS.there (r : RepS w ρ H S) {a : Addr} (h : a ∈ ρ) : ∃ (i : Nat) (c : Cell) (o : HO), ρ[i]? = some a ∧ S[i]? = some c ∧ H a = some o ∧ RepC w ρ H c o := by
  obtain ⟨i, hi⟩ := List.getElem?_of_mem h
  have hl : i < S.length := by rw [← r.len]; exact (List.getElem?_eq_some_iff.mp hi).1
  obtain ⟨o, h1, h2⟩ := r.cell i a _ hi (List.getElem?_eq_getElem hl)
  exact ⟨i, _, o, hi, List.getElem?_eq_getElem hl, h1, h2⟩
theorem RepS.none_out (r : RepS w ρ H S) {p : Addr} (h : H p = none) : p ∉ ρ := fun z => by
  obtain ⟨_, _, _, _, _, q, _⟩ := r.there z
  rw [h] at q; cases q
/-- a new thing that isn't the store's -/
theorem Ext.new (r : RepS w ρ H S) {p : Addr} {o : HO} (h : H p = none) : Ext ρ H ρ (upd H p o) :=
  ⟨⟨[], by simp, fun _ z => nomatch z⟩, fun a u e n => by rw [upd_ne (ne_of_none e h)]; exact e, fun a u e => ⟨u, by rw [upd_ne (ne_of_none e h)]; exact e⟩⟩
theorem RepS.new (r : RepS w ρ H S) {p : Addr} {o : HO} (h : H p = none) : RepS w ρ (upd H p o) S :=
  ⟨r.len, r.nd, fun i a c h1 h2 => by
    obtain ⟨u, e, q⟩ := r.cell i a c h1 h2
    exact ⟨u, by rw [upd_ne (ne_of_none e h)]; exact e, q.ext (Ext.new r h)⟩⟩
/-- a new thing of the store's -/
theorem Ext.push (r : RepS w ρ H S) {p : Addr} {o : HO} (h : H p = none) : Ext ρ H (ρ ++ [p]) (upd H p o) :=
  ⟨⟨[p], rfl, fun a z => by simp at z; subst z; exact h⟩, fun a u e n => by rw [upd_ne (ne_of_none e h)]; exact e, fun a u e => ⟨u, by rw [upd_ne (ne_of_none e h)]; exact e⟩⟩
theorem RepS.push (r : RepS w ρ H S) {p : Addr} {o : HO} {c : Cell} (h : H p = none) (q : RepC w (ρ ++ [p]) (upd H p o) c o) : RepS w (ρ ++ [p]) (upd H p o) (S ++ [c]) := by
  have np := r.none_out h
  refine ⟨by simp [r.len], ?_, fun i a c' h1 h2 => ?_⟩
  · rw [List.nodup_append]
    exact ⟨r.nd, by simp, fun a ha b hb => by simp at hb; subst hb; exact fun z => np (z ▸ ha)⟩
  · by_cases hi : i < ρ.length
    · rw [List.getElem?_append_left hi] at h1
      rw [List.getElem?_append_left (by rw [← r.len]; exact hi)] at h2
      obtain ⟨u, e, z⟩ := r.cell i a c' h1 h2
      exact ⟨u, by rw [upd_ne (ne_of_none e h)]; exact e, z.ext (Ext.push r h)⟩
    · have hl : i < (ρ ++ [p]).length := (List.getElem?_eq_some_iff.mp h1).1
      have e : i = ρ.length := by simp at hl; omega
      subst e
      rw [List.getElem?_append_right (Nat.le_refl _)] at h1
      rw [r.len, List.getElem?_append_right (Nat.le_refl _)] at h2
      simp at h1 h2
      subst h1; subst h2
      exact ⟨o, upd_same, q⟩
/-- a thing of the store's is written -/
theorem Ext.set {i : Nat} {a : Addr} {o : HO} (h : ρ[i]? = some a) : Ext ρ H ρ (upd H a o) := by
  have ha : a ∈ ρ := List.mem_of_getElem? h
  refine ⟨⟨[], by simp, fun _ z => nomatch z⟩, fun b u e n => ?_, fun b u e => ?_⟩
  · rw [upd_ne (fun z => n (by rw [z]; exact ha))]; exact e
  · by_cases hb : b = a
    · subst hb; exact ⟨o, upd_same⟩
    · exact ⟨u, by rw [upd_ne hb]; exact e⟩
theorem RepS.set (r : RepS w ρ H S) {i : Nat} {a : Addr} {o : HO} {c : Cell} (h : ρ[i]? = some a) (q : RepC w ρ (upd H a o) c o) : RepS w ρ (upd H a o) (S.set i c) := by
  refine ⟨by simp [r.len], r.nd, fun j b c' h1 h2 => ?_⟩
  by_cases hj : i = j
  · subst hj
    rw [h] at h1; cases h1
    have hi : i < S.length := by rw [← r.len]; exact (List.getElem?_eq_some_iff.mp h).1
    rw [List.getElem?_set_self hi] at h2; cases h2
    exact ⟨o, upd_same, q⟩
  · rw [List.getElem?_set_ne hj] at h2
    obtain ⟨u, e, z⟩ := r.cell j b c' h1 h2
    have hb : b ≠ a := fun z => hj (by
      subst z
      exact nodup_ixG r.nd h h1)
    exact ⟨u, by rw [upd_ne hb]; exact e, z.ext (Ext.set h)⟩
where
  nodup_ixG {N : List Addr} (hN : N.Nodup) {i j : Nat} {x : Addr} (a : N[i]? = some x) (b : N[j]? = some x) : i = j := by
    obtain ⟨h1, e1⟩ := List.getElem?_eq_some_iff.mp a
    obtain ⟨h2, e2⟩ := List.getElem?_eq_some_iff.mp b
    exact (List.getElem_inj hN).mp (e1.trans e2.symm)
end

/-! ### a thing of one's own is written, becomes the store's -/
/-- what trees are made of -/
def Held (u : HO) : Prop := (∃ l, u = .tup l) ∨ (∃ a b, u = .frz a b) ∨ ∃ C dx fs, u = .ins C dx fs
theorem not_held {H : Hp} {D a : Addr} {o u : HO} (h : H D = some o) (b : ¬ Held o) (e : H a = some u) (k : Held u) : a ≠ D := fun z => by
  rw [z, h] at e
  cases e
  exact b k
theorem held_tup {l : List V} : Held (.tup l) := .inl ⟨l, rfl⟩
theorem held_frz {a : Obj} {b : HO} : Held (.frz a b) := .inr (.inl ⟨a, b, rfl⟩)
theorem held_ins {C dx : Addr} {fs : List (Str × V)} : Held (.ins C dx fs) := .inr (.inr ⟨C, dx, fs, rfl⟩)
theorem bare_lst {l : List V} : ¬ Held (.lst l) := by rintro (⟨_, h⟩ | ⟨_, _, h⟩ | ⟨_, _, _, h⟩) <;> cases h
theorem bare_dK {l : List (DKey × V)} : ¬ Held (.dK l) := by rintro (⟨_, h⟩ | ⟨_, _, h⟩ | ⟨_, _, _, h⟩) <;> cases h
section
variable {w : Wd} {ρ : List Addr} {H : Hp} {D : Addr} {o : HO}
theorem out_snoc {a : Addr} (n : a ∉ ρ) (h : a ≠ D) : a ∉ ρ ++ [D] := fun z => (List.mem_append.mp z).elim n fun z => h (by simpa using z)
mutual
theorem RepV.adopt (h : H D = some o) (b : ¬ Held o) : ∀ (x : Val) (v : V), RepV w ρ H x v → RepV w (ρ ++ [D]) H x v
  | .non, _, r => by simpa only [RepV] using r
  | .bl _, _, r => by simpa only [RepV] using r
  | .int _, _, r => by simpa only [RepV] using r
  | .str _, _, r => by simpa only [RepV] using r
  | .tup xs, v, r => by
    simp only [RepV] at r ⊢
    obtain ⟨a, vs, h1, h2, h3⟩ := r
    refine ⟨a, vs, h1, ?_, RepVs.adopt h b xs vs h3⟩
    rcases h2 with ⟨n, q | ⟨o, q⟩⟩ | q
    · exact .inl ⟨out_snoc n (not_held h b q held_tup), .inl q⟩
    · exact .inl ⟨out_snoc n (not_held h b q held_frz), .inr ⟨o, q⟩⟩
    · exact .inr q
  | .ins c fs, v, r => by
    simp only [RepV] at r ⊢
    obtain ⟨p, C, dx, ns, vs, h1, h2, h3, h4, h5, h6⟩ := r
    exact ⟨p, C, dx, ns, vs, h1, h2, out_snoc h3 (not_held h b h4 held_ins), h4, h5, RepVs.adopt h b fs vs h6⟩
  | .scr ns, v, r => by
    simp only [RepV] at r ⊢
    obtain ⟨a, h1, h2⟩ := r
    refine ⟨a, h1, ?_⟩
    rcases h2 with ⟨n, o, q⟩ | q
    · exact .inl ⟨out_snoc n (not_held h b q held_frz), o, q⟩
    · exact .inr q
  | .ref i, v, r => by
    simp only [RepV] at r ⊢
    obtain ⟨a, h1, h2⟩ := r
    exact ⟨a, h1, by rw [List.getElem?_append_left (List.getElem?_eq_some_iff.mp h2).1]; exact h2⟩
theorem RepVs.adopt (h : H D = some o) (b : ¬ Held o) : ∀ (xs : List Val) (vs : List V), RepVs w ρ H xs vs → RepVs w (ρ ++ [D]) H xs vs
  | [], _, r => by simpa only [RepVs] using r
  | x :: xs, vs, r => by
    simp only [RepVs] at r ⊢
    obtain ⟨v, u, h1, h2, h3⟩ := r
    exact ⟨v, u, h1, RepV.adopt h b x v h2, RepVs.adopt h b xs u h3⟩
end
theorem RepKV.adopt {κ : Type} (h : H D = some o) (b : ¬ Held o) : ∀ (xs : List (κ × Val)) (vs : List (κ × V)), RepKV w ρ H xs vs → RepKV w (ρ ++ [D]) H xs vs
  | [], _, r => by simpa only [RepKV] using r
  | (k, x) :: xs, vs, r => by
    simp only [RepKV] at r ⊢
    obtain ⟨v, u, h1, h2, h3⟩ := r
    exact ⟨v, u, h1, RepV.adopt h b x v h2, RepKV.adopt h b xs u h3⟩
theorem RepC.adopt (h : H D = some o) (b : ¬ Held o) : ∀ (c : Cell) (o : HO), RepC w ρ H c o → RepC w (ρ ++ [D]) H c o
  | .lst xs, o, ⟨vs, h1, h2⟩ => ⟨vs, h1, RepVs.adopt h b xs vs h2⟩
  | .dct xs, o, ⟨vs, h1, h2⟩ => ⟨vs, h1, RepKV.adopt h b xs vs h2⟩
  | .dtt xs, o, ⟨vs, h1, h2⟩ => ⟨vs, h1, RepKV.adopt h b xs vs h2⟩
  | .obj c fs, o, ⟨C, dx, ns, vs, h1, h2, h3⟩ => ⟨C, dx, ns, vs, h1, h2, RepKV.adopt h b fs vs h3⟩
theorem RepS.adopt {S : Store} {c : Cell} (r : RepS w ρ H S) (h : H D = some o) (b : ¬ Held o) (n : D ∉ ρ) (q : RepC w ρ H c o) : RepS w (ρ ++ [D]) H (S ++ [c]) := by
  refine ⟨by simp [r.len], ?_, fun i a k h1 h2 => ?_⟩
  · rw [List.nodup_append]
    exact ⟨r.nd, by simp, fun a ha b hb => by simp at hb; subst hb; exact fun z => n (by rw [← z]; exact ha)⟩
  · by_cases hi : i < ρ.length
    · rw [List.getElem?_append_left hi] at h1
      rw [List.getElem?_append_left (by rw [← r.len]; exact hi)] at h2
      obtain ⟨u, e, z⟩ := r.cell i a k h1 h2
      exact ⟨u, e, z.adopt h b⟩
    · have hl : i < (ρ ++ [D]).length := (List.getElem?_eq_some_iff.mp h1).1
      have e : i = ρ.length := by simp at hl; omega
      subst e
      rw [List.getElem?_append_right (Nat.le_refl _)] at h1
      rw [r.len, List.getElem?_append_right (Nat.le_refl _)] at h2
      simp at h1 h2
      subst h1; subst h2
      exact ⟨_, h, q.adopt h b⟩
/-- an own thing's place joins the store's -/
theorem Ext.adopt {ρ1 : List Addr} {H1 : Hp} (e : Ext ρ1 H1 ρ H) (h : H1 D = none) : Ext ρ1 H1 (ρ ++ [D]) H := by
  refine ⟨?_, e.oth, e.mono⟩
  obtain ⟨more, rfl, hm⟩ := e.pre
  refine ⟨more ++ [D], by simp, fun a ha => ?_⟩
  rcases List.mem_append.mp ha with z | z
  · exact hm a z
  · have e : a = D := by simpa using z
    rw [e]; exact h
end
section
variable {w : Wd} {ρ : List Addr} {H : Hp} {D : Addr} {o o' : HO}
theorem own_ne {a : Addr} {u : HO} (h : H D = some o) (b : ¬ Held o) (e : H a = some u) (k : Held u) : upd H D o' a = some u := by
  rw [upd_ne (not_held h b e k)]; exact e
mutual
theorem RepV.own (h : H D = some o) (b : ¬ Held o) : ∀ (x : Val) (v : V), RepV w ρ H x v → RepV w ρ (upd H D o') x v
  | .non, _, r => by simpa only [RepV] using r
  | .bl _, _, r => by simpa only [RepV] using r
  | .int _, _, r => by simpa only [RepV] using r
  | .str _, _, r => by simpa only [RepV] using r
  | .ref _, _, r => by simpa only [RepV] using r
  | .tup xs, v, r => by
    simp only [RepV] at r ⊢
    obtain ⟨a, vs, h1, h2, h3⟩ := r
    refine ⟨a, vs, h1, ?_, RepVs.own h b xs vs h3⟩
    rcases h2 with ⟨n, q | ⟨o, q⟩⟩ | q
    · exact .inl ⟨n, .inl (own_ne h b q held_tup)⟩
    · exact .inl ⟨n, .inr ⟨o, own_ne h b q held_frz⟩⟩
    · exact .inr q
  | .ins c fs, v, r => by
    simp only [RepV] at r ⊢
    obtain ⟨p, C, dx, ns, vs, h1, h2, h3, h4, h5, h6⟩ := r
    exact ⟨p, C, dx, ns, vs, h1, h2, h3, own_ne h b h4 held_ins, h5, RepVs.own h b fs vs h6⟩
  | .scr ns, v, r => by
    simp only [RepV] at r ⊢
    obtain ⟨a, h1, h2⟩ := r
    refine ⟨a, h1, ?_⟩
    rcases h2 with ⟨n, o, q⟩ | q
    · exact .inl ⟨n, o, own_ne h b q held_frz⟩
    · exact .inr q
theorem RepVs.own (h : H D = some o) (b : ¬ Held o) : ∀ (xs : List Val) (vs : List V), RepVs w ρ H xs vs → RepVs w ρ (upd H D o') xs vs
  | [], _, r => by simpa only [RepVs] using r
  | x :: xs, vs, r => by
    simp only [RepVs] at r ⊢
    obtain ⟨v, u, h1, h2, h3⟩ := r
    exact ⟨v, u, h1, RepV.own h b x v h2, RepVs.own h b xs u h3⟩
end
theorem RepKV.own {κ : Type} (h : H D = some o) (b : ¬ Held o) : ∀ (xs : List (κ × Val)) (vs : List (κ × V)), RepKV w ρ H xs vs → RepKV w ρ (upd H D o') xs vs
  | [], _, r => by simpa only [RepKV] using r
  | (k, x) :: xs, vs, r => by
    simp only [RepKV] at r ⊢
    obtain ⟨v, u, h1, h2, h3⟩ := r
    exact ⟨v, u, h1, RepV.own h b x v h2, RepKV.own h b xs u h3⟩
theorem RepC.own (h : H D = some o) (b : ¬ Held o) : ∀ (c : Cell) (u : HO), RepC w ρ H c u → RepC w ρ (upd H D o') c u
  | .lst xs, u, ⟨vs, h1, h2⟩ => ⟨vs, h1, RepVs.own h b xs vs h2⟩
  | .dct xs, u, ⟨vs, h1, h2⟩ => ⟨vs, h1, RepKV.own h b xs vs h2⟩
  | .dtt xs, u, ⟨vs, h1, h2⟩ => ⟨vs, h1, RepKV.own h b xs vs h2⟩
  | .obj c fs, u, ⟨C, dx, ns, vs, h1, h2, h3⟩ => ⟨C, dx, ns, vs, h1, h2, RepKV.own h b fs vs h3⟩
theorem RepS.own {S : Store} (r : RepS w ρ H S) (h : H D = some o) (b : ¬ Held o) (n : D ∉ ρ) : RepS w ρ (upd H D o') S :=
  ⟨r.len, r.nd, fun i a c h1 h2 => by
    obtain ⟨u, e, q⟩ := r.cell i a c h1 h2
    exact ⟨u, by rw [upd_ne (fun z => n (by rw [← z]; exact List.mem_of_getElem? h1))]; exact e, q.own h b⟩⟩
theorem Ext.own {ρ1 : List Addr} {H1 : Hp} (e : Ext ρ1 H1 ρ H) (h : H1 D = none) (u : HO) : Ext ρ1 H1 ρ (upd H D u) :=
  ⟨e.pre, fun a z q n => by rw [upd_ne (ne_of_none q h)]; exact e.oth a z q n, fun a z q => by
    by_cases c : a = D
    · subst c; exact ⟨u, upd_same⟩
    · rw [upd_ne c]; exact e.mono a z q⟩
end
end Pd

/-! Pd, part 2: the small language and its evaluator over plain data. -/
namespace Pd
open PySem L2

inductive Lit where
  | non | bl (b : Bool) | int (i : Int) | str (x : Str)
def Lit.val : Lit → Val
  | .non => .non | .bl b => .bl b | .int i => .int i | .str x => .str x

inductive Bop where | add | sub | mul | fdiv | mod | pow | shl
inductive Cop where | eq | ne | lt | le | gt | ge | isN | notN | isIn | notIn
inductive Bf where | len | abs | repr | str | int | tuple | list | sum | all | any | min2 | max2 | dict1
inductive Bm where | append | pop | popAt | extend | insert | bitlen | get1 | get2 | update | join | sindex | split
  deriving DecidableEq
inductive Ty where | int | bool | str | tuple | list | dict | own (c : Nat)
  deriving DecidableEq

mutual
inductive IE where
  | lit (l : Lit)
  | var (i : Nat)
  | glob (g : Nat)
  | bin (op : Bop) (a b : IE)
  | neg (a : IE)
  | not (a : IE)
  | and (a b : IE)
  | or (a b : IE)
  | cmp (op : Cop) (a b : IE)
  | chain (o1 o2 : Cop) (a b c : IE)
  | ife (c a b : IE)
  | tup (es : IEs)
  | lst (es : IEs)
  | dsp (ds : IDs)
  | dcomp (key elt : IE) (own : List (Str × Nat)) (t : IT) (it : II) (c : IO)
  | idx (a b : IE)
  | slc (a : IE) (lo hi : IO)
  | rev (a : IE)
  | fld (a : IE) (f : Str)
  | call (f : Nat) (es : IEs)
  | callK (f : Nat) (q : Nat) (es ks : IEs)
  | bi (b : Bf) (es : IEs)
  | isin (a : IE) (ts : List Ty)
  | bm (m : Bm) (o : IE) (es : IEs)
  | comp (elt : IE) (own : List (Str × Nat)) (t : IT) (it : II) (c : IO)
  | comp2 (elt : IE) (own : List (Str × Nat)) (t : IT) (it : II) (c : IO) (inn : List Nat) (t2 : IT) (it2 : II) (c2 : IO)
  | gin (neg : Bool) (a : IE) (g : Nat)
  | gix (g : Nat) (b : IE)
  | lset (i j : Nat) (own : List (Str × Nat))
  | lset2 (a : IE)
  | dvals (i j : Nat) (own : List (Str × Nat))
  | mk (c q : Nat) (es ks : IEs)
inductive IEs where
  | nil
  | cons (e : IE) (es : IEs)
inductive IDs where
  | nil
  | cons (k e : IE) (ds : IDs)
inductive IO where
  | none
  | some (e : IE)
inductive IT where
  | name (i : Nat)
  | tup (ts : ITs)
inductive ITs where
  | nil
  | cons (t : IT) (ts : ITs)
inductive II where
  | val (e : IE)
  | range1 (a : IE)
  | range2 (a b : IE)
  | range3 (a b c : IE)
  | enum (e : IE)
  | zip (st : Bool) (a b : IE)
end

/-- an expression of an except suite: o the exception's name -/
inductive XE where
  | lit (l : Lit) | var (i : Nat) | tup (es : List XE) | isi (cs : List Nat) | isi1 (c : Nat) | fld (f : Str) | not (a : XE) | and (a b : XE) | or (a b : XE)
mutual
inductive XS where
  | set (i : Nat) (e : XE) | ret (e : XE) | ife (c : XE) (a b : XSs) | pass
inductive XSs where
  | nil
  | cons (s : XS) (ss : XSs)
end
/-- a class that an except clause or a raise names: its name, its type if it is a built-in one, its base's name and its fields if it has its own __init__, of which classes it is one -/
structure XD where
  name : Str
  ty : Option String
  base : Str
  flds : List Str
  sups : List Nat
  pl : Bool := false
/-- an own class that is made by a call: its name, its __init__'s number among the defs, its fields in the order in which they are set -/
structure CD where
  name : Str
  f : Nat
  flds : List Str
/-- a call of such a class: which, how many things ahead, the keywords, whence each parameter behind self -/
structure MW where
  c : Nat
  pos : Nat
  ks : List Str
  perm : List (Sum Nat Lit)
mutual
inductive IS where
  | set (i : Nat) (e : IE)
  | asg (t : IT) (e : IE)
  | par (i j : Nat) (a b : IE)
  | par3 (i j l : Nat) (a b c : IE)
  | star (ts : ITs) (i : Nat) (e : IE)
  | aug (i : Nat) (op : Bop) (e : IE)
  | idx (o k e : IE)
  | fld (o : IE) (f : Str) (e : IE)
  | fld2 (o : IE) (f g : Str) (e : IE)
  | ex (e : IE)
  | ret (e : IE)
  | retN
  | ife (c : IE) (a b : ISs)
  | for_ (t : IT) (it : II) (body : ISs)
  | whl (c : IE) (body : ISs)
  | pass | brk | cont | rais
  | raise (c : Nat) (es : IEs)
  | tryx (body : ISs) (c o : Nat) (suite : XSs)
inductive ISs where
  | nil
  | cons (s : IS) (ss : ISs)
end

/-! ### plain data to the library's own -/
def optMap {α β : Type} (f : α → Option β) : List α → Option (List β)
  | [] => some []
  | x :: xs => match f x, optMap f xs with
    | some d, some ds => some (d :: ds)
    | _, _ => none
def dat (S : Store) : Nat → Val → Option PyData
  | _, .non => some .none
  | _, .bl b => some (.bool b)
  | _, .int i => some (.int i)
  | _, .str x => some (.str x)
  | n + 1, .tup xs => (optMap (dat S n) xs).map .tuple
  | n + 1, .ref i => match S[i]? with
    | some (.lst xs) => (optMap (dat S n) xs).map .list
    | _ => none
  | _, _ => none

/-! ### steps on values -/
def alloc (c : Cell) : M Val := fun S => .ok (.ref S.length) (S ++ [c])
def setCell (i : Nat) (c : Cell) : M Unit := fun S => .ok () (S.set i c)
def sizeMax : Nat := 16777216
def intSmall (i : Int) : Bool := decide (-(2 ^ 64) < i) && decide (i < 2 ^ 64)
def mulFits (a b : Int) : Bool := intSmall a || intSmall b || decide (a.natAbs.log2 + b.natAbs.log2 < 1000000)
def divFits (b : Int) : Bool := decide (b ≠ 0) && decide (b.natAbs.log2 < 9000)
def powFits (a b : Int) : Bool := decide (0 ≤ b) && decide (b ≤ 1000000) && decide (a.natAbs < 2 ^ 64)

def truth (S : Store) : Val → Option Bool
  | .non => some false
  | .bl b => some b
  | .int i => some (i != 0)
  | .str x => if x.length ≤ sizeMax then some (x.length != 0) else none
  | .tup xs => some (!xs.isEmpty)
  | .scr ns => some (!ns.isEmpty)
  | .ref i => match S[i]? with
    | some (.lst xs) => some (!xs.isEmpty)
    | some (.dct kvs) => some (!kvs.isEmpty)
    | _ => none
  | .ins _ _ => none
def truthM (v : Val) : M Bool := fun S => match truth S v with
  | some b => .ok b S
  | none => .bad

def eqV (S : Store) (a b : Val) : Option Bool :=
  match a, b with
  | .int i, .int j => some (decide (i = j))
  | .str x, .str y => some (decide (x = y))
  | .bl x, .bl y => some (decide (x = y))
  | .non, .non => some true
  | _, _ => match dat S 60 a, dat S 60 b with
    | some d, some e => if SeqAt.shaped d && SeqAt.shaped e then some (PyData.eqv d e) else none
    | _, _ => none

def catL (i j : Nat) : M Val := fun S => match S[i]?, S[j]? with
  | some (.lst xs), some (.lst ys) => if xs.length + ys.length ≤ sizeMax then alloc (.lst (xs ++ ys)) S else .bad
  | _, _ => .bad
def repL (l : Nat) (k : Int) : M Val := fun S => match S[l]? with
  | some (.lst xs) => if decide (-(2 ^ 63) ≤ k) && decide (k < 2 ^ 63) && decide (xs.length * k.toNat ≤ sizeMax) then alloc (.lst (List.replicate k.toNat xs).flatten) S else .bad
  | _ => .bad
def addV (a b : Val) : M Val :=
  match a, b with
  | .int i, .int j => pure (.int (i + j))
  | .str x, .str y => if x.length + y.length ≤ sizeMax then pure (.str (x ++ y)) else stuck
  | .tup xs, .tup ys => if xs.length + ys.length ≤ sizeMax then pure (.tup (xs ++ ys)) else stuck
  | .ref i, .ref j => catL i j
  | _, _ => stuck
def subV (a b : Val) : M Val :=
  match a, b with
  | .int i, .int j => pure (.int (i - j))
  | .int i, .bl b => pure (.int (i - PyProof.Rows.b2i b))
  | _, _ => stuck
def mulV (a b : Val) : M Val :=
  match a, b with
  | .int i, .int j => if mulFits i j then pure (.int (i * j)) else stuck
  | .ref l, .int k => repL l k
  | _, _ => stuck
def fdivV (a b : Val) : M Val :=
  match a, b with
  | .int i, .int j => if divFits j then pure (.int (i.fdiv j)) else stuck
  | _, _ => stuck
def modV (a b : Val) : M Val :=
  match a, b with
  | .int i, .int j => if j ≠ 0 then pure (.int (i.fmod j)) else stuck
  | _, _ => stuck
def powV (a b : Val) : M Val :=
  match a, b with
  | .int i, .int j => if powFits i j then pure (.int (i ^ j.toNat)) else stuck
  | _, _ => stuck
def shlV (a b : Val) : M Val :=
  match a, b with
  | .int i, .int j => if powFits i j then pure (.int (i * 2 ^ j.toNat)) else stuck
  | _, _ => stuck
def binV (op : Bop) (a b : Val) : M Val :=
  match op with
  | .add => addV a b | .sub => subV a b | .mul => mulV a b | .fdiv => fdivV a b | .mod => modV a b | .pow => powV a b | .shl => shlV a b

def seqOf (S : Store) : Val → Option (List Val)
  | .tup xs => some xs
  | .scr ns => some (ns.map .int)
  | .ref i => match S[i]? with
    | some (.lst xs) => some xs
    | _ => none
  | _ => none

def keyOf : Val → Option DKey
  | .int i => some (.inl i)
  | .str x => some (.inr x)
  | _ => none
def lookV {κ : Type} [DecidableEq κ] : List (κ × Val) → κ → Option Val
  | [], _ => none
  | (k, v) :: r, q => if k = q then some v else lookV r q
def putV {κ : Type} [DecidableEq κ] (kvs : List (κ × Val)) (q : κ) (x : Val) : List (κ × Val) :=
  if kvs.any (fun e => decide (e.1 = q)) then kvs.map (fun e => if e.1 = q then (e.1, x) else e) else kvs ++ [(q, x)]

def mergeV (kvs more : List (DKey × Val)) : List (DKey × Val) := more.foldl (fun acc e => putV acc e.1 e.2) kvs
def pairsOf : List Val → Option (List (DKey × Val))
  | [] => some []
  | .tup [k, v] :: r => match keyOf k, pairsOf r with
    | some q, some l => some ((q, v) :: l)
    | _, _ => none
  | _ => none
/-- == of flat things -/
def flatV : Val → Bool
  | .int _ => true | .str _ => true | .bl _ => true | .non => true | _ => false
def flatEq : Val → Val → Bool
  | .non, .non => true
  | .bl a, .bl b => a == b
  | .bl a, .int b => (if a then 1 else 0) == b
  | .int a, .bl b => a == (if b then 1 else 0)
  | .int a, .int b => a == b
  | .str a, .str b => a == b
  | _, _ => false
/-- x in y: a row of flat things, a dict's keys, a sign in a text -/
def inV (S : Store) (x y : Val) : Option Bool :=
  match seqOf S y with
  | some l => if flatV x && l.all flatV then some (l.any fun z => flatEq z x) else none
  | none => match y with
    | .ref d => match S[d]? with
      | some (.dct kvs) => match keyOf x with
        | some q => some (lookV kvs q).isSome
        | none => none
      | _ => none
    | .str z => match x with
      | .str c => if c.cps.size = 1 then some (decide (c.cps.getD 0 0 ∈ z.cps.toList)) else none
      | _ => none
    | _ => none
def ltInts : List Int → List Int → Bool
  | _, [] => false
  | [], _ :: _ => true
  | a :: as, b :: bs => if a = b then ltInts as bs else decide (a < b)

def cmpV (op : Cop) (a b : Val) : M Val := fun S =>
  match op with
  | .eq => match eqV S a b with | some r => .ok (.bl r) S | none => .bad
  | .ne => match eqV S a b with | some r => .ok (.bl (!r)) S | none => .bad
  | .lt => match a, b with
    | .int i, .int j => .ok (.bl (decide (i < j))) S
    | .str x, .str y => .ok (.bl (decide (x.cps.toList < y.cps.toList))) S
    | _, _ => .bad
  | .le => match a, b with
    | .int i, .int j => .ok (.bl (decide (i ≤ j))) S
    | .str x, .str y => .ok (.bl (!decide (y.cps.toList < x.cps.toList))) S
    | _, _ => .bad
  | .gt => match a, b with
    | .int i, .int j => .ok (.bl (decide (j < i))) S
    | _, _ => .bad
  | .ge => match a, b with
    | .int i, .int j => .ok (.bl (decide (j ≤ i))) S
    | _, _ => .bad
  | .isN => match a, b with
    | .non, .non => .ok (.bl true) S
    | _, .non => .ok (.bl false) S
    | _, _ => .bad
  | .notN => match a, b with
    | .non, .non => .ok (.bl false) S
    | _, .non => .ok (.bl true) S
    | _, _ => .bad
  | .isIn => match inV S a b with | some r => .ok (.bl r) S | none => .bad
  | .notIn => match inV S a b with | some r => .ok (.bl (!r)) S | none => .bad

def idxStore (d : Nat) (k : Val) : M Val := fun S => match S[d]? with
  | some (.dct kvs) => match keyOf k with
    | some q => match lookV kvs q with | some v => .ok v S | none => .bad
    | none => .bad
  | some (.lst xs) => match k with
    | .int i => match L2.atI xs i with | some v => .ok v S | none => .bad
    | _ => .bad
  | _ => .bad
def idxV (a b : Val) : M Val :=
  match a, b with
  | .ref d, k => idxStore d k
  | .tup xs, .int i => ofOpt (L2.atI xs i)
  | .str x, .int i => if x.length ≤ sizeMax then ofOpt ((L2.atI x.cps.toList i).map fun c => .str ⟨#[c]⟩) else stuck
  | _, _ => stuck
def fldV (a : Val) (f : Str) (names : Nat → List Str) : M Val := fun S =>
  match a with
  | .ins c fs => match ((names c).zip fs).lookup f with | some v => .ok v S | none => .bad
  | _ => .bad

/-- a value's type; of None: none -/
def tyV (S : Store) : Val → Option Ty
  | .non => none
  | .bl _ => some .bool
  | .int _ => some .int
  | .str _ => some .str
  | .tup _ => some .tuple
  | .ins c _ => some (.own c)
  | .ref i => match S[i]? with
    | some (.lst _) => some .list
    | some (.dct _) => some .dict
    | some (.dtt _) => some .dict
    | some (.obj c _) => some (.own c)
    | none => none
  | .scr _ => some .list
def tyMatch (t : Option Ty) : Ty → Bool
  | .int => match t with | some .int => true | some .bool => true | _ => false
  | .bool => match t with | some .bool => true | _ => false
  | .str => match t with | some .str => true | _ => false
  | .tuple => match t with | some .tuple => true | _ => false
  | .list => match t with | some .list => true | _ => false
  | .dict => match t with | some .dict => true | _ => false
  | .own c => match t with | some (.own d) => c == d | _ => false

def intsOf : List Val → Option (List Int)
  | [] => some []
  | .int i :: r => (intsOf r).map (i :: ·)
  | _ => none
def boolsOf : List Val → Option (List Bool)
  | [] => some []
  | .bl b :: r => (boolsOf r).map (b :: ·)
  | _ => none

/-- what a list that is read holds -/
def lstOf (S : Store) : Val → Option (List Val)
  | .scr ns => some (ns.map .int)
  | .ref i => match S[i]? with
    | some (.lst xs) => some xs
    | _ => none
  | _ => none
def lenV (v : Val) : M Val := fun S => match v with
  | .str x => if x.length ≤ sizeMax then .ok (.int x.length) S else .bad
  | v => match seqOf S v with
    | some l => .ok (.int l.length) S
    | none => match v with
      | .ref d => match S[d]? with | some (.dct kvs) => .ok (.int kvs.length) S | _ => .bad
      | _ => .bad
def reprV (v : Val) : M Val := fun S => match dat S 60 v with
  | some d => if d.showable && decide (d.shown.length ≤ sizeMax) && decide (d.depth ≤ 60) && !d.hasDict then .ok (.str d.shown) S else .bad
  | none => .bad
def intF (v : Val) : M Val := match v with
  | .int i => pure (.int i)
  | .bl k => pure (.int (if k then 1 else 0))
  | .str x => ofOpt ((if x.length ≤ 640 then PySem.intText? x else none).map Val.int)
  | _ => stuck
def strF (v : Val) : M Val := match v with
  | .int i => if i.natAbs.log2 < 1920 then pure (.str (toString i)) else stuck
  | .str x => pure (.str x)
  | _ => stuck
def tupF (v : Val) : M Val := fun S => match v with
  | .tup ys => .ok (.tup ys) S
  | v => match lstOf S v with | some l => .ok (.tup l) S | none => .bad
def lstF (v : Val) : M Val := fun S => match seqOf S v with
  | some l => alloc (.lst l) S
  | none => match v with
    | .str x => if x.length ≤ sizeMax then alloc (.lst (x.cps.toList.map fun c => .str ⟨#[c]⟩)) S else .bad
    | _ => .bad
def sumF (v : Val) : M Val := fun S => match lstOf S v with
  | some l => match intsOf l with | some ns => .ok (.int ns.sum) S | none => .bad
  | none => .bad
def allF (v : Val) : M Val := fun S => match lstOf S v with
  | some l => match boolsOf l with | some bs => .ok (.bl (bs.all id)) S | none => .bad
  | none => .bad
def anyF (v : Val) : M Val := fun S => match lstOf S v with
  | some l => match boolsOf l with | some bs => .ok (.bl (bs.any id)) S | none => .bad
  | none => .bad
def dictF (v : Val) : M Val := fun S => match lstOf S v with
  | some l => match pairsOf l with | some kvs => alloc (.dct (mergeV [] kvs)) S | none => .bad
  | none => .bad
def absF (v : Val) : M Val := match v with
  | .int i => pure (.int (if i < 0 then -i else i))
  | _ => stuck
def minF (a b : Val) : M Val := match a, b with
  | .int i, .int j => pure (.int (if j < i then j else i))
  | _, _ => stuck
def maxF (a b : Val) : M Val := match a, b with
  | .int i, .int j => pure (.int (if j > i then j else i))
  | _, _ => stuck
def biV (b : Bf) (xs : List Val) : M Val :=
  match xs with
  | [v] => match b with
    | .len => lenV v | .abs => absF v | .repr => reprV v | .int => intF v | .str => strF v | .tuple => tupF v | .list => lstF v
    | .sum => sumF v | .all => allF v | .any => anyF v | .dict1 => dictF v | _ => stuck
  | [v, u] => match b with
    | .min2 => minF v u | .max2 => maxF v u | _ => stuck
  | _ => stuck

/-- the places of a slice's ends, as the hand layer has them -/
def cutL {α : Type} (xs : List α) (lo hi : Option Int) : List α :=
  (xs.drop (HT.sIx xs.length 0 lo)).take (HT.sIx xs.length xs.length hi - HT.sIx xs.length 0 lo)
def cutLst (i : Nat) (l h : Option Int) : M Val := fun S => match S[i]? with
  | some (.lst xs) => alloc (.lst (cutL xs l h)) S
  | _ => .bad
def slcV (a : Val) (l h : Option Int) : M Val :=
  match a with
  | .tup xs => pure (.tup (cutL xs l h))
  | .str x => if x.length ≤ sizeMax then pure (.str ⟨(cutL x.cps.toList l h).toArray⟩) else stuck
  | .scr ns => alloc (.lst (cutL (ns.map .int) l h))
  | .ref i => cutLst i l h
  | _ => stuck
def revLst (i : Nat) : M Val := fun S => match S[i]? with
  | some (.lst xs) => alloc (.lst xs.reverse) S
  | _ => .bad
def revV (a : Val) : M Val :=
  match a with
  | .tup xs => pure (.tup xs.reverse)
  | .scr ns => alloc (.lst (ns.map .int).reverse)
  | .ref i => revLst i
  | _ => stuck

def appendV (i : Nat) (v : Val) : M Val := fun S => match S[i]? with
  | some (.lst l) => if l.length < sizeMax then .ok .non (S.set i (.lst (l ++ [v]))) else .bad
  | _ => .bad
def popV (i : Nat) : M Val := fun S => match S[i]? with
  | some (.lst l) => match l[l.length - 1]? with
    | some v => .ok v (S.set i (.lst l.dropLast))
    | none => .bad
  | _ => .bad
def popAtV (i : Nat) (k : Int) : M Val := fun S => match S[i]? with
  | some (.lst l) => if decide (-(2 ^ 63) ≤ k) && decide (k < 2 ^ 63) then match seqIndex? k l.length with
      | some j => match l[j]? with
        | some v => .ok v (S.set i (.lst (l.eraseIdx j)))
        | none => .bad
      | none => .bad
    else .bad
  | _ => .bad
def extendV (i j : Nat) : M Val := fun S => match S[i]?, S[j]? with
  | some (.lst l), some (.lst l') => if l.length + l'.length ≤ sizeMax then .ok .non (S.set i (.lst (l ++ l'))) else .bad
  | _, _ => .bad
def insertV (i : Nat) (k : Int) (v : Val) : M Val := fun S => match S[i]? with
  | some (.lst l) => if decide (l.length < sizeMax) && decide (0 ≤ k) && decide (k < 2 ^ 63) then .ok .non (S.set i (.lst (l.take k.toNat ++ [v] ++ l.drop k.toNat))) else .bad
  | _ => .bad
/-- a thing that has the method -/
def dicOf (S : Store) : Val → Option (List (DKey × Val))
  | .ref i => match S[i]? with
    | some (.dct kvs) => some kvs
    | _ => none
  | _ => none
def strsOf : List Val → Option (List Str)
  | [] => some []
  | .str x :: r => (strsOf r).map (x :: ·)
  | _ => none
def getV (o k : Val) (d : Val) : M Val := fun S => match dicOf S o with
  | some kvs => match keyOf k with
    | some q => .ok ((lookV kvs q).getD d) S
    | none => .bad
  | none => .bad
def updateV (i j : Nat) : M Val := fun S => match S[i]?, S[j]? with
  | some (.dct kvs), some (.dct more) => if decide (i ≠ j) && decide (kvs.length + more.length ≤ sizeMax) then .ok .non (S.set i (.dct (mergeV kvs more))) else .bad
  | _, _ => .bad
def joinV (x : Str) (v : Val) : M Val := fun S => match seqOf S v with
  | some l => match strsOf l with
    | some ys => if decide ((ys.map (·.length)).sum + ys.length * x.length ≤ sizeMax) then .ok (.str (Txt.join x ys)) S else .bad
    | none => .bad
  | none => .bad
def sindexV (x y : Str) : M Val := fun S => match Builtin.Str.occurrences x y 0 x.length 1 with
  | i :: _ => .ok (.int (i : Nat)) S
  | [] => .bad
def splitV (x y : Str) : M Val := fun S =>
  if decide (y.length ≠ 0) && decide (x.length + 2 ≤ sizeMax) then alloc (.lst ((Txt.split x y).map .str)) S else .bad
/-- what kind of thing has the method -/
def isStrV : Val → Bool
  | .str _ => true
  | _ => false
def isIntV : Val → Bool
  | .int _ => true
  | _ => false
def isLstV (S : Store) : Val → Bool
  | .ref i => match S[i]? with
    | some (.lst _) => true
    | _ => false
  | _ => false
def recvB (S : Store) : Bm → Val → Bool
  | .bitlen, o => isIntV o
  | .join, o => isStrV o
  | .sindex, o => isStrV o
  | .split, o => isStrV o
  | .get1, o => (dicOf S o).isSome
  | .get2, o => (dicOf S o).isSome
  | .update, o => (dicOf S o).isSome
  | _, o => isLstV S o
def recv (m : Bm) (o : Val) : M Unit := fun S => if recvB S m o then .ok () S else .bad
def bmV (m : Bm) (o : Val) (xs : List Val) : M Val :=
  match m, o, xs with
  | .append, .ref i, [v] => appendV i v
  | .pop, .ref i, [] => popV i
  | .popAt, .ref i, [.int k] => popAtV i k
  | .extend, .ref i, [.ref j] => extendV i j
  | .insert, .ref i, [.int k, v] => insertV i k v
  | .bitlen, .int i, [] => pure (.int (Builtin.Int.intBits i : Nat))
  | .get1, o, [k] => getV o k .non
  | .get2, o, [k, d] => getV o k d
  | .update, .ref i, [.ref j] => updateV i j
  | .join, .str x, [v] => joinV x v
  | .sindex, .str x, [.str y] => sindexV x y
  | .split, .str x, [.str y] => splitV x y
  | _, _, _ => stuck

/-- how many unlike ones come that aren't there yet -/
def fresh (seen : List Str) : List Str → Nat
  | [] => 0
  | x :: r => (if x ∈ seen then 0 else 1) + fresh (x :: seen) r
/-- how many unlike texts: of a tuple -/
def lsetV : Val → Option Nat
  | .tup l => match strsOf l with
    | some ys => if ys.length ≤ 1000 then some (fresh [] ys) else none
    | none => none
  | _ => none
/-- a dict's values, asked key by key -/
def valsOf (kvs : List (DKey × Val)) : List Val := kvs.map fun e => (lookV kvs e.1).getD .non

def ginV (q : Option (Str × List (Str × Val))) (neg : Bool) (x : Val) : M Val := match x, q with
  | .str y, some q => pure (.bl (if neg then !(lookV q.2 y).isSome else (lookV q.2 y).isSome))
  | _, _ => stuck
def gixV (q : Option (Str × List (Str × Val))) (x : Val) : M Val := match x, q with
  | .str y, some q => ofOpt (lookV q.2 y)
  | _, _ => stuck
/-- len(set(x)) of a list of texts -/
def lset2M (x : Val) : M Val := fun S => match lstOf S x with
  | some l => match strsOf l with
    | some ys => if ys.length ≤ 1000 then .ok (.int (fresh [] ys : Nat)) S else .bad
    | none => .bad
  | none => .bad
def lsetM (x : Val) : M Val := fun S => match lsetV x with
  | some n => .ok (.int (n : Nat)) S
  | none => .bad
def dvalsM (x : Val) : M Val := fun S => match dicOf S x with
  | some kvs => if kvs.length ≤ 1000 then alloc (.lst (valsOf kvs)) S else .bad
  | none => .bad

/-! ### what is walked -/
def signs (x : Str) : List Val := x.cps.toList.map fun c => .str ⟨#[c]⟩
/-- a row that is read: a tuple, a list, a text -/
inductive Rw where
  | t (xs : List Val)
  | l (i : Nat)
  | s (x : Str)
def Rw.get (r : Rw) (S : Store) : Option (List Val) := match r with
  | .t xs => some xs
  | .l i => match S[i]? with
    | some (.lst xs) => some xs
    | _ => none
  | .s x => some (signs x)
inductive Rk where | t | l | s (y : Str)
def Rk.isS : Rk → Bool
  | .s _ => true
  | _ => false
def Rw.kind : Rw → Rk
  | .t _ => .t
  | .l _ => .l
  | .s y => .s y
def Rw.alike : Rw → Rw → Bool
  | .t _, .t _ => true
  | .l _, .l _ => true
  | _, _ => false
inductive Src where
  | stat (xs : List Val)
  | dyn (i : Nat)
  | enumS (xs : List Val)
  | enumD (i : Nat)
  | zip (st : Bool) (a b : Rw)
/-- the k-th thing: none where this can't be asked, some none behind the last -/
def Src.at (s : Src) (S : Store) (k : Nat) : Option (Option Val) :=
  match s with
  | .stat xs => some xs[k]?
  | .dyn i => match S[i]? with
    | some (.lst xs) => some xs[k]?
    | _ => none
  | .enumS xs => some (xs[k]?.map fun x => .tup [.int (k : Nat), x])
  | .enumD i => match S[i]? with
    | some (.lst xs) => some (xs[k]?.map fun x => .tup [.int (k : Nat), x])
    | _ => none
  | .zip st a b => match a.get S, b.get S with
    | some xs, some ys => match xs[k]?, ys[k]? with
      | some x, some y => some (some (.tup [x, y]))
      | none, none => some none
      | _, _ => if st then none else some none
    | _, _ => none
def Src.len (s : Src) (S : Store) : Nat :=
  match s with
  | .stat xs => xs.length
  | .enumS xs => xs.length
  | .zip _ a _ => match a.get S with
    | some xs => xs.length
    | none => 0
  | .dyn i => match S[i]? with
    | some (.lst xs) => xs.length
    | _ => 0
  | .enumD i => match S[i]? with
    | some (.lst xs) => xs.length
    | _ => 0
def enumV (v : Val) : M Src := fun S =>
  match v with
  | .tup xs => .ok (.enumS xs) S
  | .scr ns => .ok (.enumS (ns.map .int)) S
  | .ref i => match S[i]? with
    | some (.lst _) => .ok (.enumD i) S
    | _ => .bad
  | _ => .bad
def rowV (S : Store) : Val → Option Rw
  | .tup xs => some (.t xs)
  | .str x => some (.s x)
  | .ref i => match S[i]? with
    | some (.lst _) => some (.l i)
    | _ => none
  | _ => none
def zipV (st : Bool) (u v : Val) : M Src := fun S => match rowV S u, rowV S v with
  | some a, some b => if !b.kind.isS then .ok (.zip st a b) S else .bad
  | _, _ => .bad
/-- n of lo, lo + c, .. -/
def stepTo (lo c : Int) (n : Nat) : List Val := (List.range n).map fun i => .int (lo + (i : Nat) * c)
/-- range(i, j, c) with c = -1 -/
def range3V (i j c : Int) : M Src := fun S =>
  if decide (c = -1) && decide (-(2 ^ 62) ≤ i) && decide (i < 2 ^ 62) && decide (-(2 ^ 62) ≤ j) && decide (j < 2 ^ 62) then .ok (.stat (stepTo i (-1) (i - j).toNat)) S else .bad
def srcV (v : Val) : M Src := fun S =>
  match v with
  | .tup xs => .ok (.stat xs) S
  | .scr ns => .ok (.stat (ns.map .int)) S
  | .str x => .ok (.stat (signs x)) S
  | .ref i => match S[i]? with
    | some (.lst _) => .ok (.dyn i) S
    | _ => .bad
  | _ => .bad
def upTo (lo : Int) (n : Nat) : List Val := (List.range n).map fun i => .int (lo + (i : Nat))
def rangeV (lo hi : Int) : M Src := fun S =>
  if decide (-(2 ^ 62) ≤ lo) && decide (lo < 2 ^ 62) && decide (-(2 ^ 62) ≤ hi) && decide (hi < 2 ^ 62) then .ok (.stat (upTo lo (hi - lo).toNat)) S else .bad

/-! ### the evaluator -/
structure EvC where
  cf : Nat → List Val → M Val
  kw : Nat → List Val → List Val → Option (List Val)
  globs : List (Str × Val)
  names : Nat → List Str
  gds : List (Str × List (Str × Val)) := []
  xs : List XD := []
  mkw : Nat → Nat → List Val → List Val → Option (List Val) := fun _ _ _ _ => none
  cs : List CD := []

def envGet : Env → Nat → Option Val
  | [], _ => none
  | v :: _, 0 => v
  | _ :: r, i + 1 => envGet r i
def envSet : Env → Nat → Val → Env
  | [], _, _ => []
  | _ :: r, 0, x => some x :: r
  | v :: r, i + 1, x => v :: envSet r i x
def envDel : Env → Nat → Env
  | [], _ => []
  | _ :: r, 0 => none :: r
  | v :: r, i + 1 => v :: envDel r i
def envDels (env : Env) : List Nat → Env
  | [] => env
  | i :: is => envDel (envDels env is) i

def isinV (ts : List Ty) (v : Val) : M Val := fun S => .ok (.bl (ts.any (tyMatch (tyV S v)))) S

/-- a step that may not raise -/
def noExc {α : Type} (m : M α) : M α := fun S => match m S with
  | .ok a S' => .ok a S'
  | _ => .bad
/-- the turns of a comprehension: fuel, turn, what is there so far -/
def compLoop (src : Src) (put : Store → Val → Option Env) (keep : Env → M Bool) (elt : Env → M Val) : Nat → Nat → List Val → M (List Val)
  | fuel, k, acc => fun S => match src.at S k with
    | none => .bad
    | some none => .ok acc S
    | some (some x) => match fuel with
      | 0 => .bad
      | n + 1 => match put S x with
        | none => .bad
        | some env => (keep env >>= fun c => if c then (elt env >>= fun v => need (decide (acc.length < sizeMax)) >>= fun _ => compLoop src put keep elt n (k + 1) (acc ++ [v]))
            else compLoop src put keep elt n (k + 1) acc) S

/-- the outer turns of a comprehension with two walks -/
def comp2Loop (src : Src) (put : Store → Val → Option Env) (keep : Env → M Bool) (inner : Env → List Val → M (List Val)) : Nat → Nat → List Val → M (List Val)
  | fuel, k, acc => fun S => match src.at S k with
    | none => .bad
    | some none => .ok acc S
    | some (some x) => match fuel with
      | 0 => .bad
      | n + 1 => match put S x with
        | none => .bad
        | some env => (keep env >>= fun c => if c then (inner env acc >>= fun acc' => comp2Loop src put keep inner n (k + 1) acc')
            else comp2Loop src put keep inner n (k + 1) acc) S

/-- the turns of a dict comprehension -/
def dcompLoop (src : Src) (put : Store → Val → Option Env) (keep : Env → M Bool) (key elt : Env → M Val) : Nat → Nat → List (DKey × Val) → M (List (DKey × Val))
  | fuel, k, acc => fun S => match src.at S k with
    | none => .bad
    | some none => .ok acc S
    | some (some x) => match fuel with
      | 0 => .bad
      | n + 1 => match put S x with
        | none => .bad
        | some env => (keep env >>= fun c => if c then (key env >>= fun y => elt env >>= fun v => match keyOf y with
              | some q => need (decide (acc.length < sizeMax)) >>= fun _ => dcompLoop src put keep key elt n (k + 1) (putV acc q v)
              | none => stuck)
            else dcompLoop src put keep key elt n (k + 1) acc) S

mutual
def refsLt (n : Nat) : Val → Bool
  | .ref i => decide (i < n)
  | .tup xs => refsLtL n xs
  | .ins _ fs => refsLtL n fs
  | _ => true
def refsLtL (n : Nat) : List Val → Bool
  | [] => true
  | x :: xs => refsLt n x && refsLtL n xs
end
def cellLt (n : Nat) : Cell → Bool
  | .lst xs => refsLtL n xs
  | .dct kvs => refsLtL n (kvs.map (·.2))
  | .dtt kvs => refsLtL n (kvs.map (·.2))
  | .obj _ fs => refsLtL n (fs.map (·.2))
/-- what was made within and isn't handed out goes -/
def swept (n : Nat) (v : Val) (S : Store) : Store :=
  if refsLt n v && (S.take n).all (cellLt n) then S.take n else S
mutual
def vEq : Val → Val → Bool
  | .non, .non => true
  | .bl a, .bl b => decide (a = b)
  | .int a, .int b => decide (a = b)
  | .str a, .str b => decide (a = b)
  | .tup a, .tup b => vsEq a b
  | .ins c a, .ins d b => decide (c = d) && vsEq a b
  | .scr a, .scr b => decide (a = b)
  | .ref a, .ref b => decide (a = b)
  | _, _ => false
def vsEq : List Val → List Val → Bool
  | [], [] => true
  | x :: a, y :: b => vEq x y && vsEq a b
  | _, _ => false
end
mutual
theorem vEq_ok : ∀ a b : Val, vEq a b = true → a = b
  | .non, b, h => by cases b <;> first | rfl | cases h
  | .bl a, b, h => by cases b <;> first | cases h | (simp only [vEq, decide_eq_true_eq] at h; rw [h])
  | .int a, b, h => by cases b <;> first | cases h | (simp only [vEq, decide_eq_true_eq] at h; rw [h])
  | .str a, b, h => by cases b <;> first | cases h | (simp only [vEq, decide_eq_true_eq] at h; rw [h])
  | .tup a, b, h => by cases b <;> first | cases h | (simp only [vEq] at h; rw [vsEq_ok a _ h])
  | .ins c a, b, h => by cases b <;> first | cases h | (simp only [vEq, Bool.and_eq_true, decide_eq_true_eq] at h; rw [h.1, vsEq_ok a _ h.2])
  | .scr a, b, h => by cases b <;> first | cases h | (simp only [vEq, decide_eq_true_eq] at h; rw [h])
  | .ref a, b, h => by cases b <;> first | cases h | (simp only [vEq, decide_eq_true_eq] at h; rw [h])
theorem vsEq_ok : ∀ a b : List Val, vsEq a b = true → a = b
  | [], b, h => by cases b <;> first | rfl | cases h
  | x :: a, b, h => by
    cases b with
    | nil => cases h
    | cons y b =>
      simp only [vsEq, Bool.and_eq_true] at h
      rw [vEq_ok x y h.1, vsEq_ok a b h.2]
end
mutual
theorem vEq_rfl : ∀ a : Val, vEq a a = true
  | .non => rfl
  | .bl a => by simp [vEq]
  | .int a => by simp [vEq]
  | .str a => by simp [vEq]
  | .tup a => by simp only [vEq]; exact vsEq_rfl a
  | .ins c a => by simp only [vEq, decide_true, Bool.true_and]; exact vsEq_rfl a
  | .scr a => by simp [vEq]
  | .ref a => by simp [vEq]
theorem vsEq_rfl : ∀ a : List Val, vsEq a a = true
  | [] => rfl
  | x :: a => by simp only [vsEq, Bool.and_eq_true]; exact ⟨vEq_rfl x, vsEq_rfl a⟩
end
def kvEq {κ : Type} [DecidableEq κ] (a b : List (κ × Val)) : Bool := decide (a.map (·.1) = b.map (·.1)) && vsEq (a.map (·.2)) (b.map (·.2))
theorem kvEq_ok {κ : Type} [DecidableEq κ] : ∀ {a b : List (κ × Val)}, kvEq a b = true → a = b
  | [], [], _ => rfl
  | [], _ :: _, h => by simp [kvEq] at h
  | _ :: _, [], h => by simp [kvEq] at h
  | (p, x) :: a, (q, y) :: b, h => by
    simp only [kvEq, List.map_cons, vsEq, Bool.and_eq_true, decide_eq_true_eq] at h
    obtain ⟨h1, h2, h3⟩ := h
    injection h1 with h0 h1
    rw [h0, vEq_ok _ _ h2, kvEq_ok (a := a) (b := b) (by simp only [kvEq, Bool.and_eq_true, decide_eq_true_eq]; exact ⟨h1, h3⟩)]
theorem kvEq_rfl {κ : Type} [DecidableEq κ] (a : List (κ × Val)) : kvEq a a = true := by
  simp only [kvEq, decide_true, Bool.true_and]
  exact vsEq_rfl _
def cEq : Cell → Cell → Bool
  | .lst a, .lst b => vsEq a b
  | .dct a, .dct b => kvEq a b
  | .dtt a, .dtt b => kvEq a b
  | .obj c a, .obj d b => decide (c = d) && kvEq a b
  | _, _ => false
theorem cEq_ok {a b : Cell} (h : cEq a b = true) : a = b := by
  cases a <;> cases b <;> first | cases h | skip
  · rw [vsEq_ok _ _ h]
  · rw [kvEq_ok h]
  · rw [kvEq_ok h]
  · simp only [cEq, Bool.and_eq_true, decide_eq_true_eq] at h
    rw [h.1, kvEq_ok h.2]
theorem cEq_rfl (a : Cell) : cEq a a = true := by
  cases a
  · exact vsEq_rfl _
  · exact kvEq_rfl _
  · exact kvEq_rfl _
  · simp only [cEq, decide_true, Bool.true_and]; exact kvEq_rfl _
def sEq : Store → Store → Bool
  | [], [] => true
  | x :: a, y :: b => cEq x y && sEq a b
  | _, _ => false
theorem sEq_ok : ∀ {a b : Store}, sEq a b = true → a = b
  | [], [], _ => rfl
  | [], _ :: _, h => by cases h
  | _ :: _, [], h => by cases h
  | x :: a, y :: b, h => by
    simp only [sEq, Bool.and_eq_true] at h
    rw [cEq_ok h.1, sEq_ok h.2]
theorem sEq_rfl : ∀ a : Store, sEq a a = true
  | [] => rfl
  | x :: a => by simp only [sEq, Bool.and_eq_true]; exact ⟨cEq_rfl x, sEq_rfl a⟩
/-- an instance that was made as a thing of the store becomes one that never changes -/
def froze (flds : List Str) (c : Nat) (S S2 : Store) : Res Val := match S2[S.length]? with
  | some (.obj c' fs) => if decide (c' = c) && decide (fs.map (·.1) = flds) && refsLtL S.length (fs.map (·.2)) && sEq (S2.take S.length) S then .ok (.ins c (fs.map (·.2))) S else .bad
  | _ => .bad
/-- an own class called: __init__ at a new thing -/
def mkV (cs : List CD) (cf : Nat → List Val → M Val) (c : Nat) (zs : List Val) : M Val := fun S => match cs[c]? with
  | some d => match cf d.f (.ref S.length :: zs) (S ++ [.obj c []]) with
    | .ok .non S' => froze d.flds c S S'
    | .ok _ _ => .bad
    | .exc x S' => .exc x S'
    | .bad => .bad
  | none => .bad

mutual
/-- a value goes to a target -/
def evT (S : Store) : IT → Val → Env → Option Env
  | .name i, v, env => some (envSet env i v)
  | .tup ts, v, env => match seqOf S v with
    | some xs => evTs S ts xs env
    | none => none
def evTs (S : Store) : ITs → List Val → Env → Option Env
  | .nil, [], env => some env
  | .cons t ts, x :: xs, env => match evT S t x env with
    | some env => evTs S ts xs env
    | none => none
  | _, _, _ => none
end
mutual
def slotsT : IT → List Nat
  | .name i => [i]
  | .tup ts => slotsTs ts
def slotsTs : ITs → List Nat
  | .nil => []
  | .cons t ts => slotsT t ++ slotsTs ts
end
def lenDs : IDs → Nat
  | .nil => 0
  | .cons _ _ ds => lenDs ds + 1
def lenTs : ITs → Nat
  | .nil => 0
  | .cons _ ts => lenTs ts + 1

mutual
def evE (C : EvC) : IE → Env → M Val
  | .lit l, _ => pure l.val
  | .var i, env => ofOpt (envGet env i)
  | .glob g, _ => ofOpt ((C.globs[g]?).map (·.2))
  | .bin op a b, env => do let x ← evE C a env; let y ← evE C b env; binV op x y
  | .neg a, env => do
    let x ← evE C a env
    match x with
    | .int i => pure (.int (-i))
    | _ => stuck
  | .not a, env => do let x ← evE C a env; let t ← truthM x; pure (.bl (!t))
  | .and a b, env => do let x ← evE C a env; let t ← truthM x; if t then evE C b env else pure x
  | .or a b, env => do let x ← evE C a env; let t ← truthM x; if t then pure x else evE C b env
  | .cmp op a b, env => do let x ← evE C a env; let y ← evE C b env; cmpV op x y
  | .chain o1 o2 a b c, env => do
    let x ← evE C a env
    let y ← evE C b env
    let r ← cmpV o1 x y
    let t ← truthM r
    if t then do let z ← evE C c env; cmpV o2 y z else pure r
  | .ife c a b, env => do let x ← evE C c env; let t ← truthM x; if t then evE C a env else evE C b env
  | .tup es, env => do let xs ← evEs C es env; need (decide (xs.length ≤ sizeMax)); pure (.tup xs)
  | .lst es, env => do let xs ← evEs C es env; need (decide (xs.length ≤ sizeMax)); alloc (.lst xs)
  | .dsp ds, env => do
    let kvs ← evD C ds env
    alloc (.dct (mergeV [] kvs))
  | .dcomp key elt own t it c, env => do
    let src ← evI C it env
    let env' := envDels env (own.map (·.2))
    let kvs ← noExc fun S => dcompLoop src (fun S x => evT S t x env') (evK C c) (evE C key) (evE C elt) (src.len S) 0 [] S
    alloc (.dct kvs)
  | .idx a b, env => do let x ← evE C a env; let y ← evE C b env; idxV x y
  | .slc a lo hi, env => do let x ← evE C a env; let l ← evO C lo env; let h ← evO C hi env; slcV x l h
  | .rev a, env => do let x ← evE C a env; revV x
  | .fld a f, env => do let x ← evE C a env; fldV x f C.names
  | .call f es, env => do let xs ← evEs C es env; C.cf f xs
  | .callK f q es ks, env => do let xs ← evEs C es env; let ys ← evEs C ks env; let zs ← ofOpt (C.kw q xs ys); C.cf f zs
  | .bi b es, env => do let xs ← evEs C es env; biV b xs
  | .isin a ts, env => do let x ← evE C a env; isinV ts x
  | .bm m o es, env => do let x ← evE C o env; recv m x; let xs ← evEs C es env; bmV m x xs
  | .comp elt own t it c, env => do
    let src ← evI C it env
    let env' := envDels env (own.map (·.2))
    let xs ← noExc fun S => compLoop src (fun S x => evT S t x env') (evK C c) (evE C elt) (src.len S) 0 [] S
    alloc (.lst xs)
  | .comp2 elt own t it c inn t2 it2 c2, env => do
    let src ← evI C it env
    let env' := envDels env (own.map (·.2))
    let xs ← noExc fun S => comp2Loop src (fun S x => evT S t x env') (evK C c) (fun env1 acc => do
      let src2 ← evI C it2 env1
      let env2 := envDels env1 inn
      fun S => compLoop src2 (fun S x => evT S t2 x env2) (evK C c2) (evE C elt) (src2.len S) 0 acc S) (src.len S) 0 [] S
    alloc (.lst xs)
  | .gin neg a g, env => do let x ← evE C a env; ginV C.gds[g]? neg x
  | .gix g b, env => do let x ← evE C b env; gixV C.gds[g]? x
  | .lset i j _, env => do let x ← ofOpt (envGet env i); need (decide (j < env.length)); lsetM x
  | .lset2 a, env => do let x ← evE C a env; lset2M x
  | .dvals i j _, env => do let x ← ofOpt (envGet env i); need (decide (j < env.length)); dvalsM x
  | .mk c q es ks, env => do let xs ← evEs C es env; let ys ← evEs C ks env; let zs ← ofOpt (C.mkw q c xs ys); mkV C.cs C.cf c zs
def evEs (C : EvC) : IEs → Env → M (List Val)
  | .nil, _ => pure []
  | .cons e es, env => do let x ← evE C e env; let xs ← evEs C es env; pure (x :: xs)
/-- a dict's pairs, in their order -/
def evD (C : EvC) : IDs → Env → M (List (DKey × Val))
  | .nil, _ => pure []
  | .cons k e ds, env => do
    let x ← evE C k env
    let v ← evE C e env
    let r ← evD C ds env
    match keyOf x with
    | some q => pure ((q, v) :: r)
    | none => stuck
def evO (C : EvC) : IO → Env → M (Option Int)
  | .none, _ => pure none
  | .some e, env => do
    let x ← evE C e env
    match x with
    | .int i => pure (some i)
    | _ => stuck
def evK (C : EvC) : IO → Env → M Bool
  | .none, _ => pure true
  | .some c, env => do let x ← evE C c env; truthM x
def evI (C : EvC) : II → Env → M Src
  | .val e, env => do let x ← evE C e env; srcV x
  | .range1 a, env => do
    let x ← evE C a env
    match x with
    | .int i => rangeV 0 i
    | _ => stuck
  | .range2 a b, env => do
    let x ← evE C a env
    let y ← evE C b env
    match x, y with
    | .int i, .int j => rangeV i j
    | _, _ => stuck
  | .range3 a b c, env => do
    let x ← evE C a env
    let y ← evE C b env
    let z ← evE C c env
    match x, y, z with
    | .int i, .int j, .int k => range3V i j k
    | _, _, _ => stuck
  | .enum e, env => do let x ← evE C e env; enumV x
  | .zip st a b, env => do let x ← evE C a env; let y ← evE C b env; zipV st x y
end

/-! ### statements -/
inductive RS where
  | nx (env : Env) (S : Store)
  | bk (env : Env) (S : Store)
  | ct (env : Env) (S : Store)
  | rt (v : Val) (S : Store)
  | exc (x : Exn) (env : Env) (S : Store)
  | bad
def Res.then {α : Type} (r : Res α) (env : Env) (f : α → Store → RS) : RS :=
  match r with
  | .ok a S => f a S
  | .exc x S => .exc x env S
  | .bad => .bad
def RS.seq (r : RS) (f : Env → Store → RS) : RS :=
  match r with
  | .nx env S => f env S
  | r => r
/-- the turns of a for -/
def forLoop (src : Src) (put : Store → Val → Env → Option Env) (body : Env → Store → RS) : Nat → Nat → Env → Store → RS
  | fuel, k, env, S => match src.at S k with
    | none => .bad
    | some none => .nx env S
    | some (some x) => match fuel with
      | 0 => .bad
      | n + 1 => match put S x env with
        | none => .bad
        | some env1 => match body env1 S with
          | .nx env2 S2 => forLoop src put body n (k + 1) env2 S2
          | .ct env2 S2 => forLoop src put body n (k + 1) env2 S2
          | .bk env2 S2 => .nx env2 S2
          | r => r
def whlLoop (test : Env → M Bool) (body : Env → Store → RS) : Nat → Env → Store → RS
  | fuel, env, S => (test env S).then env fun t S1 => if t then match fuel with
      | 0 => .bad
      | n + 1 => match body env S1 with
        | .nx env2 S2 => whlLoop test body n env2 S2
        | .ct env2 S2 => whlLoop test body n env2 S2
        | .bk env2 S2 => .nx env2 S2
        | r => r
    else .nx env S1
def putN (f : Str) (v : Val) : List (Str × Val) → List (Str × Val)
  | [] => [(f, v)]
  | (g, u) :: r => if g = f then (g, v) :: r else (g, u) :: putN f v r
/-- o.f = v -/
def setF (names : Nat → List Str) (o : Val) (f : Str) (v : Val) : M Unit := fun S =>
  match o with
  | .ref d => match S[d]? with
    | some (.obj c fs) => if decide (fs.length < 1000) && (names c).contains f then .ok () (S.set d (.obj c (putN f v fs))) else .bad
    | _ => .bad
  | _ => .bad
def setV (o k v : Val) : M Unit := fun S =>
  match o with
  | .ref d => match S[d]? with
    | some (.lst xs) => match k with
      | .int i => match L2.ixN xs.length i with
        | some j => .ok () (S.set d (.lst (xs.set j v)))
        | none => .bad
      | _ => .bad
    | some (.dct kvs) => match keyOf k with
      | some q => if kvs.length < sizeMax then .ok () (S.set d (.dct (putV kvs q v))) else .bad
      | none => .bad
    | _ => .bad
  | _ => .bad

/-- first, *middle, last = v: what the targets get, n of them, the i-th a new list -/
def starV (S : Store) (v : Val) (n i : Nat) : Option (List Val × List Val) := match v with
  | .tup l => if decide (n ≤ l.length + 1) && decide (i < n) && decide (l.length ≤ 16384) then some (l.take i ++ [.ref S.length] ++ (l.drop i).drop (l.length + 1 - n), (l.drop i).take (l.length + 1 - n)) else none
  | _ => none
/-- x op= y of ints -/
def augV (op : Bop) (x y : Val) : M Val := match op, x, y with
  | .add, .int i, .int j => pure (.int (i + j))
  | .sub, .int i, .int j => pure (.int (i - j))
  | _, _, _ => stuck
/-- whether class a is one of class b -/
def subX (xs : List XD) (a b : Nat) : Bool := match xs[a]? with
  | some d => d.sups.contains b
  | none => false
/-- an own class whose __init__ keeps its fields -/
def ownX (xs : List XD) (c : Nat) : Bool := match xs[c]? with
  | some d => d.ty.isNone && (!d.flds.isEmpty || d.pl)
  | none => false
/-- an own class called with its fields, raised -/
def raiseR (xs : List XD) (c : Nat) (vs : List Val) (env : Env) (S : Store) : RS := match xs[c]? with
  | some d => if d.flds.isEmpty then (if vs.length ≤ sizeMax then .exc ⟨c, []⟩ env S else .bad) else if vs.length = d.flds.length then .exc ⟨c, (d.flds.zip vs).reverse⟩ env S else .bad
  | none => .bad
mutual
def evX (xs : List XD) (x : Exn) : XE → Env → Option Val
  | .lit l, _ => some l.val
  | .var i, env => envGet env i
  | .tup es, env => (evXs xs x es env).map .tup
  | .isi cs, _ => some (.bl (cs.any fun c => subX xs x.cls c))
  | .isi1 c, _ => some (.bl (subX xs x.cls c))
  | .fld f, _ => x.fs.lookup f
  | .not a, env => match evX xs x a env with
    | some (.bl b) => some (.bl !b)
    | _ => none
  | .and a b, env => match evX xs x a env with
    | some (.bl true) => evX xs x b env
    | some (.bl false) => some (.bl false)
    | _ => none
  | .or a b, env => match evX xs x a env with
    | some (.bl true) => some (.bl true)
    | some (.bl false) => evX xs x b env
    | _ => none
def evXs (xs : List XD) (x : Exn) : List XE → Env → Option (List Val)
  | [], _ => some []
  | e :: es, env => match evX xs x e env, evXs xs x es env with
    | some v, some vs => some (v :: vs)
    | _, _ => none
end
mutual
def evXS (xs : List XD) (x : Exn) : XS → Env → Store → RS
  | .set i e, env, S => match evX xs x e env with
    | some v => .nx (envSet env i v) S
    | none => .bad
  | .ret e, env, S => match evX xs x e env with
    | some v => .rt v S
    | none => .bad
  | .ife c a b, env, S => match evX xs x c env with
    | some (.bl true) => evXSs xs x a env S
    | some (.bl false) => evXSs xs x b env S
    | _ => .bad
  | .pass, env, S => .nx env S
def evXSs (xs : List XD) (x : Exn) : XSs → Env → Store → RS
  | .nil, env, S => .nx env S
  | .cons s ss, env, S => (evXS xs x s env S).seq (evXSs xs x ss)
end
/-- behind the suite the exception's name is none -/
def tidy (o : Nat) : RS → RS
  | .nx env S => .nx (envDel env o) S
  | r => r
mutual
/-- n: how many turns a while may take -/
def evS (C : EvC) (n : Nat) : IS → Env → Store → RS
  | .set i e, env, S => (evE C e env S).then env fun v S => .nx (envSet env i v) S
  | .asg t e, env, S => (evE C e env S).then env fun v S => match evT S t v env with
    | some env => .nx env S
    | none => .bad
  | .par i j a b, env, S => (evE C a env S).then env fun x S => (evE C b env S).then env fun y S => .nx (envSet (envSet env i x) j y) S
  | .par3 i j l a b c, env, S => (evE C a env S).then env fun x S => (evE C b env S).then env fun y S => (evE C c env S).then env fun z S => .nx (envSet (envSet (envSet env i x) j y) l z) S
  | .star ts i e, env, S => (evE C e env S).then env fun v S => match starV S v (lenTs ts) i with
    | some (xs, ms) => match evTs (S ++ [.lst ms]) ts xs env with
      | some env => .nx env (S ++ [.lst ms])
      | none => .bad
    | none => .bad
  | .aug i op e, env, S => match envGet env i with
    | none => .bad
    | some x => (evE C e env S).then env fun y S => (augV op x y S).then env fun v S => .nx (envSet env i v) S
  | .idx o k e, env, S => (evE C e env S).then env fun v S => (evE C o env S).then env fun x S => (evE C k env S).then env fun y S => (setV x y v S).then env fun _ S => .nx env S
  | .fld o f e, env, S => (evE C e env S).then env fun v S => (evE C o env S).then env fun x S => (setF C.names x f v S).then env fun _ S => .nx env S
  | .fld2 o f g e, env, S => (evE C e env S).then env fun v S => match v with
    | .tup [y, z] => (evE C o env S).then env fun x S => (setF C.names x f y S).then env fun _ S => (evE C o env S).then env fun x S => (setF C.names x g z S).then env fun _ S => .nx env S
    | _ => .bad
  | .ex e, env, S => (evE C e env S).then env fun _ S => .nx env S
  | .ret e, env, S => (evE C e env S).then env fun v S => .rt v S
  | .retN, _, S => .rt .non S
  | .ife c a b, env, S => (evE C c env S).then env fun v S => (truthM v S).then env fun t S => if t then evSs C n a env S else evSs C n b env S
  | .for_ t it body, env, S => (evI C it env S).then env fun src S => forLoop src (fun S x e => evT S t x e) (evSs C n body) (src.len S) 0 env S
  | .whl c body, env, S => whlLoop (fun e => do let v ← evE C c e; truthM v) (evSs C n body) n env S
  | .pass, env, S => .nx env S
  | .brk, env, S => .bk env S
  | .cont, env, S => .ct env S
  | .rais, _, _ => .bad
  | .raise c es, env, S => if ownX C.xs c then (evEs C es env S).then env fun vs S => raiseR C.xs c vs env S else .bad
  | .tryx body c o suite, env, S => match evSs C n body env S with
    | .exc x env1 S1 => if ownX C.xs x.cls && decide (o < env1.length) then (if subX C.xs x.cls c then tidy o (evXSs C.xs x suite (envDel env1 o) S1) else .exc x env1 S1) else .bad
    | r => r
def evSs (C : EvC) (n : Nat) : ISs → Env → Store → RS
  | .nil, env, S => .nx env S
  | .cons s ss, env, S => (evS C n s env S).seq (evSs C n ss)
end

/-! ### defs -/
structure FnD where
  name : Str
  N : List Str
  np : Nat
  body : ISs
/-- a call with keywords: of which def, how many ahead, their names, whence each parameter -/
structure KW where
  name : Str
  pos : Nat
  ks : List Str
  perm : List Nat
structure Tab where
  fns : List FnD
  globs : List (Str × Val)
  blts : List Str
  cnames : Nat → List Str
  tys : List Ty
  kws : List KW := []
  gds : List (Str × List (Str × Val)) := []
  xs : List XD := []
  cs : List CD := []
  mws : List MW := []
/-- the def's number is an __init__'s -/
def Tab.ini (T : Tab) (f : Nat) : Bool := T.cs.any fun d => decide (d.f = f)
def Tab.mkwV (T : Tab) (q c : Nat) (xs ys : List Val) : Option (List Val) := match T.mws[q]? with
  | some w => if w.c = c ∧ xs.length = w.pos ∧ ys.length = w.ks.length then optMap (fun s => match s with | .inl i => (xs ++ ys)[i]? | .inr l => some l.val) w.perm else none
  | none => none
def Tab.kwV (T : Tab) (q : Nat) (xs ys : List Val) : Option (List Val) := match T.kws[q]? with
  | some w => if xs.length = w.pos ∧ ys.length = w.ks.length then optMap (fun i => (xs ++ ys)[i]?) w.perm else none
  | none => none

def callF (T : Tab) (fuel : Nat) : Nat → Nat → List Val → M Val
  | 0, _, _ => stuck
  | k + 1, f, args => fun S => match T.fns[f]? with
    | none => .bad
    | some d => if args.length = d.np then
        match evSs ⟨callF T fuel k, T.kwV, T.globs, T.cnames, T.gds, T.xs, T.mkwV, T.cs⟩ fuel d.body (args.map some ++ List.replicate (d.N.length - d.np) none) S with
        | .nx _ S' => .ok .non (swept S.length .non S')
        | .rt v S' => .ok v (swept S.length v S')
        | .exc x _ S' => .exc x S'
        | _ => .bad
      else .bad
end Pd

/-! Pd, part 3: when a text of the small language stands for a text of the model's. -/
namespace Pd
open PySem L2

def visB (sc : Scope) (x : Str) : Bool := match sc.names.lookup x with
  | some .local => true | some .cell => true | some .free => true | _ => false
def glB (sc : Scope) (x : Str) : Bool := match sc.names.lookup x with
  | some .globalImplicit => true | _ => false
def locB (sc : Scope) (x : Str) : Bool := match sc.names.lookup x with
  | some .local => true | some .cell => true | _ => false
def plB (sc : Scope) (x : Str) : Bool := match sc.names.lookup x with
  | some .local => true | _ => false
/-- a name that may be stored: ow is the scope as it is written -/
def stB (ow sc : Scope) (x : Str) : Bool := match sc.names.lookup x with
  | some .local => true
  | some .cell => (match ow.names.lookup x with | some .cell => true | _ => false)
  | _ => false
def notDbg (x : Str) : Bool := !(x == ("__debug__" : Str)) && !(x == ("__classdict__" : Str)) && !(x == ("__name__" : Str)) && !(x == ("super" : Str))

def opB : Bop → Operator → Bool
  | .add, .Add => true | .sub, .Sub => true | .mul, .Mult => true | .fdiv, .FloorDiv => true
  | .mod, .Mod => true | .pow, .Pow => true | .shl, .LShift => true | _, _ => false
def copB : Cop → CmpOp → Bool
  | .eq, .Eq => true | .ne, .NotEq => true | .lt, .Lt => true | .le, .LtE => true | .gt, .Gt => true | .ge, .GtE => true
  | .isN, .Is => true | .notN, .IsNot => true | .isIn, .In => true | .notIn, .NotIn => true | _, _ => false
def bfName : Bf → Str
  | .len => "len" | .abs => "abs" | .repr => "repr" | .str => "str" | .int => "int" | .tuple => "tuple" | .list => "list" | .sum => "sum"
  | .all => "all" | .any => "any" | .min2 => "min" | .max2 => "max" | .dict1 => "dict"
def bmName : Bm → Str
  | .append => "append" | .pop => "pop" | .popAt => "pop" | .extend => "extend" | .insert => "insert" | .bitlen => "bit_length" | .get1 => "get" | .get2 => "get" | .update => "update" | .join => "join" | .sindex => "index" | .split => "split"
def tyName : Ty → Str
  | .int => "int" | .bool => "bool" | .str => "str" | .tuple => "tuple" | .list => "list" | .dict => "dict" | .own _ => ""
def isNone : Expr → Bool
  | .Constant .none _ _ => true
  | _ => false

/-- the names of types -/
def tyB (T : Tab) (sc : Scope) : List Ty → List Expr → Bool
  | [], [] => true
  | t :: ts, .Name x _ :: es => (match t with | .own c => decide ((T.cs[c]?).map (·.name) = some x) && notDbg x | _ => decide (x = tyName t) && T.blts.contains x) && glB sc x && decide (t ∈ T.tys) && tyB T sc ts es
  | _, _ => false
/-- the second of isinstance -/
def tyN (T : Tab) (sc : Scope) (ts : List Ty) : Expr → Bool
  | .Name n p => decide (ts.length = 1) && tyB T sc ts [.Name n p]
  | .Tuple es _ _ => decide (ts.length ≤ 15) && tyB T sc ts es
  | _ => false
def bmAr : Bm → Nat
  | .append => 1 | .pop => 0 | .popAt => 1 | .extend => 1 | .insert => 2 | .bitlen => 0 | .get1 => 1 | .get2 => 2 | .update => 1 | .join => 1 | .sindex => 1 | .split => 1
def litB : Lit → Const → Bool
  | .non, .none => true
  | .bl b, .bool c => b == c
  | .int i, .int j => i == j
  | .str x, .str y => decide (x = y)
  | _, _ => false
/-- sizes of argument lists -/
def fewB {α : Type} (es : List α) : Bool := decide (es.length < 30)

/-- a walk that gives pairs wants a tuple to store to -/
def tgOk : II → Expr → Bool
  | .enum _, .Tuple _ _ _ => true
  | .enum _, _ => false
  | .zip _ _ _, .Tuple _ _ _ => true
  | .zip _ _ _, _ => false
  | _, _ => true
/-- strict=True -/
def strictB : List Keyword → Bool
  | [⟨some n, .Constant (.bool true) _ _, _⟩] => decide (n = "strict")
  | _ => false
def kwE : Keyword → Expr
  | ⟨_, e, _⟩ => e
def kwN : Keyword → Option Str
  | ⟨n, _, _⟩ => n
/-- the q-th way of calling with keywords -/
def kwB (T : Tab) (q : Nat) (x : Str) (xs : List Expr) (kws : List Keyword) : Bool := match T.kws[q]? with
  | some w => decide (w.name = x) && decide (w.pos = xs.length) && decide (kws.map kwN = w.ks.map some) && !kws.isEmpty
  | none => false
/-- a call of an own class -/
def mwB (T : Tab) (q c : Nat) (xs : List Expr) (kws : List Keyword) : Bool := match T.mws[q]? with
  | some w => decide (w.c = c) && decide (w.pos = xs.length) && decide (kws.map kwN = w.ks.map some)
  | none => false
/-- len({y for y in x}) -/
def chkLs (T : Tab) (N : List Str) (sc : Scope) (i j : Nat) (own : List (Str × Nat)) : Expr → Bool
  | .Call (.Name l _) [.SetComp (.Name y _) [⟨.Name y2 _, .Name x _, [], asy⟩] scope _] [] _ => decide (asy = 0) && decide (l = "len") && glB sc l && notDbg l && T.blts.contains l && decide (N[i]? = some x) && visB sc x && notDbg x && blkC N sc scope own && decide (own = [(y, j)]) && decide (y2 = y) &&
      decide (N[j]? = some y) && stB scope (relS scope sc) y && visB (relS scope sc) y && notDbg y
  | _ => false
/-- [x[y] for y in x] -/
def chkDv (N : List Str) (sc : Scope) (i j : Nat) (own : List (Str × Nat)) : Expr → Bool
  | .ListComp (.Subscript (.Name x2 _) (.Name y _) _) [⟨.Name y2 _, .Name x _, [], asy⟩] scope _ => decide (asy = 0) && decide (N[i]? = some x) && visB sc x && notDbg x && blkC N sc scope own && decide (own = [(y, j)]) && decide (y2 = y) && decide (x2 = x) && decide (i ≠ j) &&
      decide (N[j]? = some y) && stB scope (relS scope sc) y && visB (relS scope sc) y && notDbg y && visB (relS scope sc) x
  | _ => false
mutual
def chkE (T : Tab) (N : List Str) (sc : Scope) : IE → Expr → Bool
  | .lit l, .Constant c _ _ => litB l c
  | .var i, .Name x _ => decide (N[i]? = some x) && visB sc x && notDbg x
  | .glob g, .Name x _ => decide ((T.globs[g]?).map (·.1) = some x) && glB sc x && notDbg x
  | .bin op a b, .BinOp l o r _ => opB op o && chkE T N sc a l && chkE T N sc b r
  | .neg a, .UnaryOp .USub x _ => chkE T N sc a x
  | .not a, .UnaryOp .Not x _ => chkE T N sc a x
  | .and a b, .BoolOp .And (e :: e2 :: r) p => chkE T N sc a e && chkE T N sc b (match r with | [] => e2 | _ :: _ => .BoolOp .And (e2 :: r) p)
  | .or a b, .BoolOp .Or (e :: e2 :: r) p => chkE T N sc a e && chkE T N sc b (match r with | [] => e2 | _ :: _ => .BoolOp .Or (e2 :: r) p)
  | .cmp op a b, .Compare l [o] [r] _ => copB op o && chkE T N sc a l && chkE T N sc b r && !(behindInMarks o r)
  | .chain o1 o2 a b c, .Compare l [p1, p2] [m, r] _ => copB o1 p1 && copB o2 p2 && chkE T N sc a l && chkE T N sc b m && chkE T N sc c r && !(lastMarks [p1, p2] [m, r])
  | .ife c a b, .IfExp t x y _ => chkE T N sc c t && chkE T N sc a x && chkE T N sc b y
  | .tup es, .Tuple xs _ _ => chkEs T N sc es xs
  | .lst es, .List xs _ => chkEs T N sc es xs
  | .idx a b, .Subscript x y _ => chkE T N sc a x && chkE T N sc b y
  | .slc a lo hi, .Subscript x (.Slice l h none _) _ => chkE T N sc a x && chkO T N sc lo l && chkO T N sc hi h
  | .rev a, .Subscript x (.Slice none none (some (.UnaryOp .USub (.Constant (.int n) _ _) _)) _) _ => decide (n = 1) && chkE T N sc a x
  | .call f es, .Call (.Name x _) xs [] _ => !T.ini f && decide ((T.fns[f]?).map (·.name) = some x) && glB sc x && notDbg x && chkEs T N sc es xs
  | .callK f q es ks, .Call (.Name x _) xs kws _ => !T.ini f && decide ((T.fns[f]?).map (·.name) = some x) && glB sc x && notDbg x && kwB T q x xs kws && chkEs T N sc es xs && chkEs T N sc ks (kws.map kwE)
  | .bi b es, .Call (.Name x _) xs [] _ => decide (x = bfName b) && glB sc x && notDbg x && T.blts.contains x && chkEs T N sc es xs && !xs.isEmpty
  | .isin a ts, .Call (.Name x _) [e, y] [] _ => decide (x = "isinstance") && glB sc x && T.blts.contains x && chkE T N sc a e && tyN T sc ts y
  | .bm m o es, .Call (.Attribute x nm ap) xs [] p => decide (nm = bmName m) && chkE T N sc o x && chkEs T N sc es xs && fewB xs && (ap.endLine == p.line) && decide (xs.length = bmAr m)
  | .dsp ds, .Dict ks vs _ => chkD T N sc ds ks vs && decide (ks.length ≤ 15)
  | .dcomp key elt own t it c, .DictComp kx e [⟨tg, ie, ifs, asy⟩] scope _ => decide (asy = 0) && chkI T N sc it ie && tgOk it tg && blkC N sc scope own && (slotsT t).all (fun i => (own.map (·.2)).contains i) && chkT T N scope (relS scope sc) t tg &&
      chkTO T N (relS scope sc) c ifs && chkE T N (relS scope sc) key kx && chkE T N (relS scope sc) elt e
  | .comp elt own t it c, .ListComp e [⟨tg, ie, ifs, asy⟩] scope _ => decide (asy = 0) && chkI T N sc it ie && tgOk it tg && blkC N sc scope own && (slotsT t).all (fun i => (own.map (·.2)).contains i) && chkT T N scope (relS scope sc) t tg &&
      chkTO T N (relS scope sc) c ifs && chkE T N (relS scope sc) elt e
  | .comp2 elt own t it c inn t2 it2 c2, .ListComp e [⟨tg, ie, ifs, asy⟩, ⟨tg2, ie2, ifs2, asy2⟩] scope _ => decide (asy = 0) && decide (asy2 = 0) && chkI T N sc it ie && tgOk it tg && blkC N sc scope own && (slotsT t).all (fun i => (own.map (·.2)).contains i) && chkT T N scope (relS scope sc) t tg &&
      chkTO T N (relS scope sc) c ifs && inn.all (fun i => (own.map (·.2)).contains i) && (slotsT t2).all (fun i => inn.contains i) && chkT T N scope (relS scope sc) t2 tg2 && chkI T N (relS scope sc) it2 ie2 && tgOk it2 tg2 && chkTO T N (relS scope sc) c2 ifs2 && chkE T N (relS scope sc) elt e
  | .gin false a g, .Compare l [.In] [.Name x p] _ => decide ((T.gds[g]?).map (·.1) = some x) && glB sc x && notDbg x && chkE T N sc a l && !(behindInMarks .In (.Name x p))
  | .gin true a g, .Compare l [.NotIn] [.Name x p] _ => decide ((T.gds[g]?).map (·.1) = some x) && glB sc x && notDbg x && chkE T N sc a l && !(behindInMarks .NotIn (.Name x p))
  | .gix g b, .Subscript (.Name x _) y _ => decide ((T.gds[g]?).map (·.1) = some x) && glB sc x && notDbg x && chkE T N sc b y
  | .lset i j own, e => chkLs T N sc i j own e
  | .lset2 a, .Call (.Name l _) [.Call (.Name s _) [e] [] _] [] _ => decide (l = ("len" : Str)) && glB sc l && T.blts.contains l && decide (s = ("set" : Str)) && glB sc s && T.blts.contains s && chkE T N sc a e
  | .dvals i j own, e => chkDv N sc i j own e
  | .mk c q es ks, .Call (.Name x _) xs kws _ => decide ((T.cs[c]?).map (·.name) = some x) && glB sc x && notDbg x && mwB T q c xs kws && chkEs T N sc es xs && chkEs T N sc ks (kws.map kwE)
  | .fld a f, .Attribute x g _ => decide (g = f) && chkE T N sc a x
  | _, _ => false
def chkEs (T : Tab) (N : List Str) (sc : Scope) : IEs → List Expr → Bool
  | .nil, [] => true
  | .cons e es, x :: xs => chkE T N sc e x && chkEs T N sc es xs
  | _, _ => false
def chkD (T : Tab) (N : List Str) (sc : Scope) : IDs → List (Option Expr) → List Expr → Bool
  | .nil, [], [] => true
  | .cons k e ds, some x :: ks, y :: vs => chkE T N sc k x && chkE T N sc e y && chkD T N sc ds ks vs
  | _, _, _ => false
def chkO (T : Tab) (N : List Str) (sc : Scope) : IO → Option Expr → Bool
  | .none, none => true
  | .some e, some x => chkE T N sc e x
  | _, _ => false
/-- a comprehension's tests: none or one -/
def chkTO (T : Tab) (N : List Str) (sc : Scope) : IO → List Expr → Bool
  | .none, [] => true
  | .some e, [x] => chkE T N sc e x
  | _, _ => false
def chkT (T : Tab) (N : List Str) (ow sc : Scope) : IT → Expr → Bool
  | .name i, .Name x _ => decide (N[i]? = some x) && stB ow sc x
  | .tup ts, .Tuple xs _ _ => chkTs T N ow sc ts xs
  | _, _ => false
def chkTs (T : Tab) (N : List Str) (ow sc : Scope) : ITs → List Expr → Bool
  | .nil, [] => true
  | .cons t ts, x :: xs => chkT T N ow sc t x && chkTs T N ow sc ts xs
  | _, _ => false
def chkI (T : Tab) (N : List Str) (sc : Scope) : II → Expr → Bool
  | .val e, x => chkE T N sc e x
  | .range1 a, .Call (.Name x _) [y] [] _ => decide (x = "range") && glB sc x && T.blts.contains x && chkE T N sc a y
  | .range2 a b, .Call (.Name x _) [y, z] [] _ => decide (x = "range") && glB sc x && T.blts.contains x && chkE T N sc a y && chkE T N sc b z
  | .range3 a b c, .Call (.Name x _) [y, z, u] [] _ => decide (x = "range") && glB sc x && T.blts.contains x && chkE T N sc a y && chkE T N sc b z && chkE T N sc c u
  | .enum e, .Call (.Name x _) [y] [] _ => decide (x = "enumerate") && glB sc x && T.blts.contains x && chkE T N sc e y
  | .zip false a b, .Call (.Name x _) [y, z] [] _ => decide (x = "zip") && glB sc x && T.blts.contains x && chkE T N sc a y && chkE T N sc b z
  | .zip true a b, .Call (.Name x _) [y, z] kws _ => decide (x = "zip") && glB sc x && T.blts.contains x && strictB kws && chkE T N sc a y && chkE T N sc b z
  | _, _ => false
end

/-- a list comprehension given to a name on its own line: which road its store takes -/
def isLc : Expr → Bool
  | .ListComp .. => true
  | .SetComp .. => true
  | .DictComp .. => true
  | _ => false
/-- a target that is no plain local is among them -/
def mixB (sc : Scope) (ts : List Expr) : Bool := ts.any fun t => match t with
  | .Name x _ => !plB sc x
  | _ => true
/-- what a tuple of targets may take without a swap of its stores -/
def foldTup : Expr → Bool
  | .Tuple vs _ _ => vs.all (foldedForSure 8)
  | _ => true
def lcSwap (sc : Scope) (x : Str) (px : Pos) : Expr → Bool
  | .ListComp _ _ s p => plB sc x && (px.line == p.line) && !(s.names.any fun y => y.1 == x && (y.2 == .local || y.2 == .cell))
  | .DictComp _ _ _ s p => plB sc x && (px.line == p.line) && !(s.names.any fun y => y.1 == x && (y.2 == .local || y.2 == .cell))
  | _ => false

/-- x, y = u, v -/
def parOf : List Expr → Expr → Option (Str × Pos × Str × Pos × Expr × Expr)
  | [.Tuple [.Name x px, .Name y py] _ _], .Tuple [u, v] _ _ => some (x, px, y, py, u, v)
  | _, _ => none
theorem parOf_inv {ts : List Expr} {w : Expr} {x y : Str} {px py : Pos} {u v : Expr} (h : parOf ts w = some (x, px, y, py, u, v)) : ∃ k p k2 p2, ts = [.Tuple [.Name x px, .Name y py] k p] ∧ w = .Tuple [u, v] k2 p2 := by
  unfold parOf at h
  split at h
  · injection h with h
    simp only [Prod.mk.injEq] at h
    obtain ⟨rfl, rfl, rfl, rfl, rfl, rfl⟩ := h
    exact ⟨_, _, _, _, rfl, rfl⟩
  · cases h
/-- x, y, z = u, v, w -/
def parOf3 : List Expr → Expr → Option (List (Str × Pos) × List Expr)
  | [.Tuple [.Name x px, .Name y py, .Name z pz] _ _], .Tuple [u, v, w] _ _ => some ([(x, px), (y, py), (z, pz)], [u, v, w])
  | _, _ => none
theorem parOf3_inv {ts : List Expr} {e : Expr} {xs : List (Str × Pos)} {us : List Expr} (h : parOf3 ts e = some (xs, us)) : ∃ x px y py z pz u v w k p k2 p2, xs = [(x, px), (y, py), (z, pz)] ∧ us = [u, v, w] ∧ ts = [.Tuple [.Name x px, .Name y py, .Name z pz] k p] ∧ e = .Tuple [u, v, w] k2 p2 := by
  unfold parOf3 at h
  split at h
  · injection h with h
    simp only [Prod.mk.injEq] at h
    obtain ⟨rfl, rfl⟩ := h
    exact ⟨_, _, _, _, _, _, _, _, _, _, _, _, _, rfl, rfl, rfl, rfl⟩
  · cases h
/-- first, *middle, last as targets -/
def starOf : List Expr → Option (List Expr × Str × Pos × Pos × List Expr)
  | [] => none
  | .Starred (.Name x px) p :: r => some ([], x, px, p, r)
  | e :: r => (starOf r).map fun q => (e :: q.1, q.2)
theorem starOf_inv : ∀ {ts pre post : List Expr} {x : Str} {px p : Pos}, starOf ts = some (pre, x, px, p, post) → ts = pre ++ .Starred (.Name x px) p :: post
  | [], _, _, _, _, _, h => by simp [starOf] at h
  | e :: r, pre, post, x, px, p, h => by
    unfold starOf at h
    split at h
    · cases h
    · rename_i heq
      cases heq
      injection h with h
      simp only [Prod.mk.injEq] at h
      obtain ⟨rfl, rfl, rfl, rfl, rfl⟩ := h
      rfl
    · rename_i heq
      cases heq
      cases q : starOf r with
      | none => rw [q] at h; cases h
      | some t =>
        rw [q] at h
        obtain ⟨a, b, c, d, f⟩ := t
        injection h with h
        simp only [Prod.mk.injEq] at h
        obtain ⟨rfl, rfl, rfl, rfl, rfl⟩ := h
        rw [starOf_inv q]
        rfl
/-- o.f, u.g as targets -/
def at2 : List Expr → Option (Expr × Str × Expr × Str)
  | [.Attribute x f _, .Attribute y g _] => some (x, f, y, g)
  | _ => none
theorem at2_inv {es : List Expr} {x y : Expr} {f g : Str} (h : at2 es = some (x, f, y, g)) : ∃ p q, es = [.Attribute x f p, .Attribute y g q] := by
  unfold at2 at h
  split at h
  · cases h
    exact ⟨_, _, rfl⟩
  · cases h
def isC2 : IE → Bool
  | .comp2 .. => true
  | .dvals .. => true
  | _ => false
/-! ### except suites -/
def xnB (T : Tab) (sc : Scope) (c : Nat) : Expr → Bool
  | .Name x _ => decide ((T.xs[c]?).map (·.name) = some x) && glB sc x && notDbg x
  | _ => false
def xnsB (T : Tab) (sc : Scope) : List Nat → List Expr → Bool
  | [], [] => true
  | c :: cs, y :: ys => xnB T sc c y && xnsB T sc cs ys
  | _, _ => false
mutual
/-- n: the exception's name -/
def chkXE (T : Tab) (N : List Str) (sc : Scope) (n : Str) : XE → Expr → Bool
  | .lit l, .Constant c _ _ => litB l c
  | .var i, .Name x _ => decide (N[i]? = some x) && visB sc x && notDbg x
  | .tup es, .Tuple xs _ _ => chkXEs T N sc n es xs && decide (xs.length ≤ 100)
  | .isi1 c, .Call (.Name f _) [.Name x _, y] [] _ => decide (f = ("isinstance" : Str)) && glB sc f && T.blts.contains f && decide (x = n) && xnB T sc c y
  | .isi cs, .Call (.Name f _) [.Name x _, .Tuple ys _ _] [] _ => decide (f = ("isinstance" : Str)) && glB sc f && T.blts.contains f && decide (x = n) && xnsB T sc cs ys && decide (ys.length ≤ 100)
  | .fld f, .Attribute (.Name x _) g _ => decide (x = n) && decide (g = f) && (T.xs.flatMap (·.flds)).contains f
  | .not a, .UnaryOp .Not e _ => chkXE T N sc n a e
  | .and a b, .BoolOp .And (e :: e2 :: r) p => chkXE T N sc n a e && chkXE T N sc n b (match r with | [] => e2 | _ :: _ => .BoolOp .And (e2 :: r) p)
  | .or a b, .BoolOp .Or (e :: e2 :: r) p => chkXE T N sc n a e && chkXE T N sc n b (match r with | [] => e2 | _ :: _ => .BoolOp .Or (e2 :: r) p)
  | _, _ => false
def chkXEs (T : Tab) (N : List Str) (sc : Scope) (n : Str) : List XE → List Expr → Bool
  | [], [] => true
  | e :: es, x :: xs => chkXE T N sc n e x && chkXEs T N sc n es xs
  | _, _ => false
end
mutual
def chkXS (T : Tab) (N : List Str) (sc : Scope) (n : Str) (o : Nat) : XS → Stmt → Bool
  | .set i e, .Assign [.Name x _] v _ => decide (N[i]? = some x) && decide (i ≠ o) && plB sc x && chkXE T N sc n e v
  | .ret e, .Return (some v) _ => chkXE T N sc n e v
  | .ife c a b, .If t x y _ => chkXE T N sc n c t && chkXSs T N sc n o a x && chkXSs T N sc n o b y
  | .pass, .Pass _ => true
  | _, _ => false
def chkXSs (T : Tab) (N : List Str) (sc : Scope) (n : Str) (o : Nat) : XSs → List Stmt → Bool
  | .nil, [] => true
  | .cons s ss, x :: xs => chkXS T N sc n o s x && chkXSs T N sc n o ss xs
  | _, _ => false
end
def chkRz (T : Tab) (N : List Str) (sc : Scope) (c : Nat) (es : IEs) : Expr → Bool
  | .Call (.Name x _) xs [] _ => decide ((T.xs[c]?).map (·.name) = some x) && glB sc x && notDbg x && chkEs T N sc es xs && !xs.isEmpty
  | _ => false
def chkHs (T : Tab) (N : List Str) (sc : Scope) (c o : Nat) (su : XSs) : List ExceptHandler → Bool
  | [.ExceptHandler (some y) (some n) (s0 :: ss) _] => xnB T sc c y && decide (N[o]? = some n) && plB sc n && visB sc n && notDbg n && chkXSs T N sc n o su (s0 :: ss)
  | _ => false
mutual
def chkS (T : Tab) (N : List Str) (sc : Scope) : IS → Stmt → Bool
  | .set i e, .Assign [.Name x px] v _ => decide (N[i]? = some x) && chkE T N sc e v && !isC2 e && (if lcSwap sc x px v then true else stB sc sc x)
  | .asg t e, .Assign [.Tuple ts k p] v _ => chkT T N sc sc t (.Tuple ts k p) && chkE T N sc e v && (foldTup v || mixB sc ts)
  | .par i j a b, .Assign ts w _ => match parOf ts w with
    | some (x, px, y, py, u, v) => decide (N[i]? = some x) && decide (N[j]? = some y) && decide (i ≠ j) && decide (x ≠ y) && plB sc x && plB sc y && chkE T N sc a u && chkE T N sc b v &&
      (px.line == py.line) && !([u, v].all (foldedForSure 8)) && !([u, v].all (constantsAlone 8))
    | none => false
  | .par3 i j l a b c, .Assign ts w _ => match parOf3 ts w with
    | some ([(x, px), (y, py), (z, pz)], [u, v, q]) => decide (N[i]? = some x) && decide (N[j]? = some y) && decide (N[l]? = some z) && decide (i ≠ j) && decide (i ≠ l) && decide (j ≠ l) && decide (x ≠ y) && decide (x ≠ z) && decide (y ≠ z) &&
      plB sc x && plB sc y && plB sc z && chkE T N sc a u && chkE T N sc b v && chkE T N sc c q && (px.line == py.line) && (px.line == pz.line) && !([u, v, q].all (foldedForSure 8)) && !([u, v, q].all (constantsAlone 8))
    | _ => false
  | .star ts i e, .Assign [.Tuple es k p] v _ => match starOf es with
    | some (a, x, px, _, b) => decide (a.length = i) && chkTs T N sc sc ts (a ++ .Name x px :: b) && chkE T N sc e v && !isLc v && foldTup v
    | none => false
  | .aug i op e, .AugAssign (.Name x _) o v _ => decide (N[i]? = some x) && stB sc sc x && opB op o && chkE T N sc e v
  | .idx o k e, .Assign [.Subscript x y _] v _ => chkE T N sc o x && chkE T N sc k y && chkE T N sc e v && !isLc v
  | .fld o f e, .Assign [.Attribute x g _] v _ => decide (g = f) && chkE T N sc o x && chkE T N sc e v && !isLc v
  | .fld2 o f g e, .Assign [.Tuple es k p] v _ => match at2 es with
    | some (x, f', y, g') => decide (f' = f) && decide (g' = g) && chkE T N sc o x && chkE T N sc o y && chkE T N sc e v && !isLc v && foldTup v
    | none => false
  | .ex e, .Expr v _ => chkE T N sc e v && !isLc v
  | .ret e, .Return (some v) _ => chkE T N sc e v
  | .retN, .Return none _ => true
  | .ife c a b, .If t x y _ => chkE T N sc c t && chkSs T N sc a x && chkSs T N sc b y
  | .for_ t it b, .For tg ie x [] _ => chkT T N sc sc t tg && chkI T N sc it ie && tgOk it tg && chkSs T N sc b x
  | .whl c b, .While t x [] _ => chkE T N sc c t && chkSs T N sc b x
  | .pass, .Pass _ => true
  | .brk, .Break _ => true
  | .cont, .Continue _ => true
  | .rais, .Raise _ _ _ => true
  | .raise c es, .Raise (some e) none _ => chkRz T N sc c es e
  | .tryx body c o su, .Try b hs [] [] _ => chkSs T N sc body b && chkHs T N sc c o su hs
  | _, _ => false
def chkSs (T : Tab) (N : List Str) (sc : Scope) : ISs → List Stmt → Bool
  | .nil, [] => true
  | .cons s ss, x :: xs => chkS T N sc s x && chkSs T N sc ss xs
  | _, _ => false
end

end Pd

/-! Pd, part 4: what it means that a step of the evaluator is kept by the machine; the smallest rules. -/
namespace Pd
open PySem PySem.Spec L2

def RepE (w : Wd) (ρ : List Addr) (H : Hp) : Env → St → Prop
  | [], σ => σ = []
  | none :: e, σ => ∃ s r, σ = s :: r ∧ RepE w ρ H e r
  | some v :: e, σ => ∃ x r, σ = some x :: r ∧ RepV w ρ H v x ∧ RepE w ρ H e r
theorem RepE.ext {w : Wd} {ρ ρ' : List Addr} {H H' : Hp} (e : Ext ρ H ρ' H') : ∀ (env : Env) (σ : L2.St), RepE w ρ H env σ → RepE w ρ' H' env σ
  | [], _, h => h
  | none :: env, σ, ⟨s, r, h1, h2⟩ => ⟨s, r, h1, RepE.ext e env r h2⟩
  | some v :: env, σ, ⟨x, r, h1, h2, h3⟩ => ⟨x, r, h1, h2.ext e, RepE.ext e env r h3⟩
theorem RepE.get {w : Wd} {ρ : List Addr} {H : Hp} : ∀ {env : Env} {σ : St} {i : Nat} {v : Val}, RepE w ρ H env σ → envGet env i = some v → ∃ x, σ[i]? = some (some x) ∧ RepV w ρ H v x
  | [], _, _, _, _, h => nomatch h
  | none :: env, _, 0, _, _, h => nomatch h
  | none :: env, _, i + 1, v, ⟨s, r, h1, h2⟩, h => by
    subst h1
    obtain ⟨x, q1, q2⟩ := RepE.get (i := i) h2 h
    exact ⟨x, by simpa using q1, q2⟩
  | some u :: env, _, 0, v, ⟨x, r, h1, h2, h3⟩, h => by
    subst h1
    have e : u = v := Option.some.inj h
    subst e
    exact ⟨x, by simp, h2⟩
  | some u :: env, _, i + 1, v, ⟨x, r, h1, h2, h3⟩, h => by
    subst h1
    obtain ⟨x, q1, q2⟩ := RepE.get (i := i) h3 h
    exact ⟨x, by simpa using q1, q2⟩
theorem RepE.set {w : Wd} {ρ : List Addr} {H : Hp} {v : Val} {x : V} (q : RepV w ρ H v x) : ∀ {env : Env} {σ : St} (i : Nat), RepE w ρ H env σ → RepE w ρ H (envSet env i v) (σ.set i (some x))
  | [], _, i, h => by subst h; simp [envSet, RepE]
  | none :: env, _, 0, ⟨s, r, h1, h2⟩ => by subst h1; exact ⟨x, r, rfl, q, h2⟩
  | some u :: env, _, 0, ⟨_, r, h1, _, h3⟩ => by subst h1; exact ⟨x, r, rfl, q, h3⟩
  | none :: env, _, i + 1, ⟨s, r, h1, h2⟩ => by subst h1; exact ⟨s, _, rfl, RepE.set q i h2⟩
  | some u :: env, _, i + 1, ⟨y, r, h1, h2, h3⟩ => by subst h1; exact ⟨y, _, rfl, h2, RepE.set q i h3⟩
theorem RepE.del {w : Wd} {ρ : List Addr} {H : Hp} : ∀ {env : Env} {σ : St} (i : Nat), RepE w ρ H env σ → RepE w ρ H (envDel env i) (σ.set i none)
  | [], _, i, h => by subst h; simp [envDel, RepE]
  | none :: env, _, 0, ⟨s, r, h1, h2⟩ => by subst h1; exact ⟨_, r, rfl, h2⟩
  | some u :: env, _, 0, ⟨_, r, h1, _, h3⟩ => by subst h1; exact ⟨_, r, rfl, h3⟩
  | none :: env, _, i + 1, ⟨s, r, h1, h2⟩ => by subst h1; exact ⟨s, _, rfl, RepE.del i h2⟩
  | some u :: env, _, i + 1, ⟨y, r, h1, h2, h3⟩ => by subst h1; exact ⟨y, _, rfl, h2, RepE.del i h3⟩
theorem RepE.dels {w : Wd} {ρ : List Addr} {H : Hp} {env : Env} {σ : St} (h : RepE w ρ H env σ) : ∀ is : List Nat, RepE w ρ H (envDels env is) (wipe σ is)
  | [] => h
  | i :: is => RepE.del i (RepE.dels h is)

def RepX (w : Wd) (ρ : List Addr) (H : Hp) (x : Exn) (cls : Value) (d : Option Addr) : Prop :=
  ∃ C, w.exc x.cls = some C ∧ cls = .ref C ∧ ((x.fs = [] ∧ d = none) ∨ ∃ dx fv, d = some dx ∧ dx ∉ ρ ∧ H dx = some (.xd fv) ∧ RepKV w ρ H x.fs fv)

/-- what is wanted behind r, of things b that stand for a by rel -/
def Post {α β : Type} (w : Wd) (W : WX) (σ : St) (rel : List Addr → Hp → α → β → Prop) (ρ : List Addr) (H : Hp) (r : Res α) (Q : β → Hp → Prop) : Prop :=
  match r with
  | .ok v S => ∀ x ρ' H', Ext ρ H ρ' H' → rel ρ' H' v x → RepS w ρ' H' S → Q x H'
  | .exc x S => ∀ cls d ρ' H', Ext ρ H ρ' H' → RepX w ρ' H' x cls d → RepS w ρ' H' S → W cls d σ H'
  | .bad => False

theorem Post.imp {α β : Type} {w : Wd} {W : WX} {σ : St} {rel : List Addr → Hp → α → β → Prop} {ρ : List Addr} {H : Hp} {r : Res α} {Q Q' : β → Hp → Prop} (h : Post w W σ rel ρ H r Q) (f : ∀ x H', Q x H' → Q' x H') : Post w W σ rel ρ H r Q' := by
  cases r with
  | ok v S => exact fun x ρ' H' e1 e2 e3 => f _ _ (h x ρ' H' e1 e2 e3)
  | exc x S => exact h
  | bad => exact h
theorem Post.later {α β : Type} {w : Wd} {W : WX} {σ : St} {rel : List Addr → Hp → α → β → Prop} {ρ ρ1 : List Addr} {H H1 : Hp} {r : Res α} {Q : β → Hp → Prop} (e : Ext ρ H ρ1 H1) (h : Post w W σ rel ρ H r Q) : Post w W σ rel ρ1 H1 r Q := by
  cases r with
  | ok v S => exact fun x ρ' H' e1 e2 e3 => h x ρ' H' (e.trans e1) e2 e3
  | exc x S => exact fun c d ρ' H' e1 e2 e3 => h c d ρ' H' (e.trans e1) e2 e3
  | bad => exact h
theorem bind_app {α β : Type} (m : M α) (f : α → M β) (S : Store) : (m >>= f) S = match m S with | .ok a S' => f a S' | .exc x S' => .exc x S' | .bad => .bad := rfl
theorem pure_app {α : Type} (a : α) (S : Store) : (pure a : M α) S = .ok a S := rfl
/-- a step, then another -/
theorem Post.bind {α β α' β' : Type} {w : Wd} {W : WX} {σ : St} {rel : List Addr → Hp → α → β → Prop} {rel' : List Addr → Hp → α' → β' → Prop} {ρ : List Addr} {H : Hp} {S : Store} {m : M α} {f : α → M α'} {Q : β' → Hp → Prop}
    (h : Post w W σ rel' ρ H ((m >>= f) S) Q) :
    Post w W σ rel ρ H (m S) (fun x H1 => ∃ v ρ1 S1, Ext ρ H ρ1 H1 ∧ rel ρ1 H1 v x ∧ RepS w ρ1 H1 S1 ∧ Post w W σ rel' ρ1 H1 (f v S1) Q) := by
  have e : (m >>= f) S = match m S with | .ok a S' => f a S' | .exc x S' => .exc x S' | .bad => .bad := rfl
  rw [e] at h
  cases q : m S with
  | ok v S1 =>
    rw [q] at h
    exact fun x ρ1 H1 e1 e2 e3 => ⟨v, ρ1, S1, e1, e2, e3, h.later e1⟩
  | exc x S1 => rw [q] at h; exact h
  | bad => rw [q] at h; exact h
theorem Post.ok {α β : Type} {w : Wd} {W : WX} {σ : St} {rel : List Addr → Hp → α → β → Prop} {ρ : List Addr} {H : Hp} {S : Store} {v : α} {x : β} {Q : β → Hp → Prop} (h : Post w W σ rel ρ H (.ok v S) Q) (r : rel ρ H v x) (s : RepS w ρ H S) : Q x H :=
  h x ρ H (Ext.refl _ _) r s

/-- an expression -/
structure DE (w : Wd) (W : WX) (X : Cx) (e : Expr) (m : Env → M Val) : Prop where
  ex : ∃ t, PE X e t ∧ ∀ ρ σ H env S (Q : VK), RepE w ρ H env σ → RepS w ρ H S → Post w W σ (RepV w) ρ H (m env S) Q → t σ H Q
/-- a test -/
structure DT (w : Wd) (W : WX) (X : Cx) (e : Expr) (m : Env → M Bool) : Prop where
  ex : ∃ t, PT X e t ∧ ∀ ρ σ H env S (Q : Bool → Hp → Prop), RepE w ρ H env σ → RepS w ρ H S → Post w W σ (fun _ _ a b => a = b) ρ H (m env S) Q → t σ H Q
/-- arguments -/
structure DA (w : Wd) (W : WX) (X : Cx) (es : List Expr) (m : Env → M (List Val)) : Prop where
  ex : ∃ t, PA X es t ∧ ∀ ρ σ H env S (Q : List V → Hp → Prop), RepE w ρ H env σ → RepS w ρ H S → Post w W σ (RepVs w) ρ H (m env S) Q → t σ H Q

/-! ### what a def promises, no repr under way -/
structure FnG (P : Program) (wo : World) (K : PySem.W.Frag) (mg : Str → Option Value) (base : Heap) (k : Nat) (f : Addr) (fd : FuncData) (ps : List Str) (sp : Sp) : Prop where
  len : ∀ vs H Q E, sp vs H Q E → vs.length = ps.length
  run : ∀ (A : Around) (outer : List PySem.Env) (s : Shared) (H : Hp) (args : Args) (us : List Value) (vs : List V) (Q : VK) (E : XK), Room k A → A.guards = some [] → Env0 P wo K mg base A outer s H →
    BindsTo s fd args (ps.zip us) → Vals vs us → sp vs H Q E → codeAny (model P wo) A (.call (.ref f) args) (CR (CX P wo) outer P wo H s Q E) s

/-- what the caller may count on of def f at level k -/
def spOf (w : Wd) (T : Tab) (fuel k f : Nat) : Sp := fun vs H Q E => ∃ d ρ S args, T.fns[f]? = some d ∧ RepVs w ρ H args vs ∧ RepS w ρ H S ∧ args.length = d.np ∧
  Post w (fun c d _ H => E c d H) [] (RepV w) ρ H (callF T fuel k f args S) Q

/-- the arguments in the parameters' order -/
def permA {α : Type} (w : KW) (us ws : List α) : List α := if us.length = w.pos ∧ ws.length = w.ks.length then w.perm.filterMap fun i => (us ++ ws)[i]? else []
/-- whence the parameters behind self come -/
def permM {α : Type} (w : MW) (lv : Lit → α) (us ws : List α) : List α := match us with
  | [] => []
  | x :: us => x :: w.perm.filterMap fun s => match s with | .inl i => (us ++ ws)[i]? | .inr l => some (lv l)
def litV : Lit → V
  | .non => .non | .bl b => .bl b | .int i => .int i | .str x => .str x
/-- __init__ of class c -/
structure IniAt (w : Wd) (mg : Str → Option Value) (T : Tab) (a : Addr) (fd : FuncData) (ps : List Str) (c : Nat) (d : CD) : Prop where
  ex : ∃ C, w.cls c = some (C, d.flds) ∧ mg d.name = some (.ref C) ∧ Mk w.K C a ∧
    ∀ (q : Nat) (v : MW), T.mws[q]? = some v → v.c = c → ∃ g gV, KBn w.K fd ps (v.pos + 1) v.ks g gV ∧ ∀ (x : V) (us ws : List V), us.length = v.pos → ws.length = v.ks.length → gV (x :: us) ws = permM v litV (x :: us) ws
structure FnAt (P : Program) (wo : World) (w : Wd) (mg : Str → Option Value) (base : Heap) (T : Tab) (fuel k f : Nat) (d : FnD) : Prop where
  ex : ∃ a fd, (T.ini f = false → mg d.name = some (.ref a) ∧ PySem.W.keepIn w.K (.ref a) = true ∧ Binds w.K fd (d.N.take d.np) [] ∧
    ∀ (q : Nat) (v : KW), T.kws[q]? = some v → v.name = d.name → KBinds w.K fd (d.N.take d.np) v.ks (permA v) (permA v)) ∧ FnG P wo w.K mg base (2 * k + 1) a fd (d.N.take d.np) (spOf w T fuel k f) ∧
    ∀ (c : Nat) (e : CD), T.cs[c]? = some e → e.f = f → IniAt w mg T a fd (d.N.take d.np) c e

/-- what isinstance asks of a class of the text's own -/
structure ClsAt (K : PySem.W.Frag) (C : Addr) : Prop where
  cl : Cls K C
  ha : PySem.W.findIn K (.ref C) "__class__" = some (some (.builtin "object.__class__"))
  hn : PySem.W.specialIn K (.builtin "object.__class__") "__get__" = some (some (.builtin "getset_descriptor.__get__"))
  ht : PySem.W.takesIn K (.builtin "object.__class__") = some true
  hm : PySem.W.mroIn K C (.type "object") = some true
def tyVal (w : Wd) : Option Ty → Option Value
  | none => some (.type "NoneType")
  | some .int => some (.type "int") | some .bool => some (.type "bool") | some .str => some (.type "str") | some .tuple => some (.type "tuple")
  | some .list => some (.type "list") | some .dict => some (.type "dict")
  | some (.own c) => (w.cls c).map fun p => .ref p.1
/-- the entries of a dict of the module -/
def EntsAt (w : Wd) : List (Str × Val) → List DictEntry → Prop
  | [], [] => True
  | (x, v) :: r, e :: es => (∃ t, e.key = .str x t) ∧ (∃ xv, RelV xv e.val ∧ ∀ ρ H, RepV w ρ H v xv) ∧ EntsAt w r es
  | _, _ => False
/-- a dict of the module with text keys, not changed -/
def GdAt (w : Wd) (wo : World) (mg : Str → Option Value) (x : Str) (kvs : List (Str × Val)) : Prop :=
  ∃ a es n, mg x = some (.ref a) ∧ KDict w.K wo a es n ∧ EntsAt w kvs es.toList
theorem ents_at {w : Wd} {z : Str} : ∀ {kvs : List (Str × Val)} {es : List DictEntry}, EntsAt w kvs es → es.any (·.refKey) = false ∧
    (match lookV kvs z with | none => es.find? (·.key.isStr z) = none | some v => ∃ e, es.find? (·.key.isStr z) = some e ∧ ∃ xv, RelV xv e.val ∧ ∀ ρ H, RepV w ρ H v xv)
  | [], [], _ => ⟨rfl, rfl⟩
  | (x, v) :: r, e :: es, h => by
    obtain ⟨⟨t, hk⟩, hv, h3⟩ := h
    obtain ⟨i1, i2⟩ := ents_at (z := z) h3
    refine ⟨?_, ?_⟩
    · rw [List.any_cons, i1]
      unfold DictEntry.refKey
      rw [hk]; rfl
    · unfold lookV
      by_cases c : x = z
      · subst c
        rw [if_pos rfl]
        refine ⟨e, ?_, hv⟩
        rw [List.find?_cons_of_pos]
        rw [hk]
        exact beq_self_eq_true x
      · rw [if_neg c, List.find?_cons_of_neg]
        · exact i2
        · rw [hk]
          show ¬ ((x == z) = true)
          simpa using c
theorem gd_none {w : Wd} {a : Addr} {es : Array DictEntry} {n : Nat} {kvs : List (Str × Val)} {z : Str} (h : w.K.lookup a = some ⟨.type "dict", none, .dict es n, #[]⟩) (q : EntsAt w kvs es.toList) (e : lookV kvs z = none) : PySem.W.nsIn w.K a z = some none := by
  obtain ⟨h1, h2⟩ := ents_at (z := z) q
  rw [e] at h2
  unfold PySem.W.nsIn
  rw [h]
  dsimp only
  rw [h2, h1]
  rfl
theorem gd_some {w : Wd} {a : Addr} {es : Array DictEntry} {n : Nat} {kvs : List (Str × Val)} {z : Str} {v : Val} (h : w.K.lookup a = some ⟨.type "dict", none, .dict es n, #[]⟩) (q : EntsAt w kvs es.toList) (e : lookV kvs z = some v) : ∃ u xv, PySem.W.nsIn w.K a z = some (some u) ∧ RelV xv u ∧ ∀ ρ H, RepV w ρ H v xv := by
  obtain ⟨h1, h2⟩ := ents_at (z := z) q
  rw [e] at h2
  obtain ⟨en, h3, xv, h4, h5⟩ := h2
  refine ⟨en.val, xv, ?_, h4, h5⟩
  unfold PySem.W.nsIn
  rw [h]
  dsimp only
  rw [h3]
/-- the classes whose instances never change -/
structure CsAt (w : Wd) (T : Tab) (mg : Str → Option Value) : Prop where
  nm : ∀ c C ns, w.cls c = some (C, ns) → T.cnames c = ns ∧ ∀ f ∈ ns, NoAttr w.K C f
  at_ : ∀ (c : Nat) (d : CD), T.cs[c]? = some d → ∃ C, w.cls c = some (C, d.flds) ∧ mg d.name = some (.ref C)
  fn : ∀ (c : Nat) (d : CD), T.cs[c]? = some d → ∃ e, T.fns[d.f]? = some e ∧ e.np ≠ 0
/-- the context of a text -/
structure Good (w : Wd) (T : Tab) (fuel k : Nat) (N : List Str) (ow sc : Scope) (W : WX) (X : Cx) : Prop where
  hN : X.N = N
  nd : X.N.Nodup
  hsc : X.env.scope = sc
  hK : X.K = w.K
  calm : X.calm = true
  room : Room (2 * k + 2) X.A
  grd : X.A.guards = some []
  tk : Takes X W
  hst : ∀ x, stB ow sc x = true → L2.Loc X.env.scope x ∧ (X.fn x = true ∨ X.env.scope.names.lookup x = some .local)
  fns : ∀ f d, T.fns[f]? = some d → FnAt X.prog X.w w X.mg X.base T fuel k f d
  globs : ∀ (g : Nat) x v, T.globs[g]? = some (x, v) → ∃ u xv, X.mg x = some u ∧ RelV xv u ∧ ∀ ρ H, RepV w ρ H v xv
  gds : ∀ (g : Nat) x kvs, T.gds[g]? = some (x, kvs) → GdAt w X.w X.mg x kvs
  blts : ∀ x ∈ T.blts, X.mg x = none
  cls : ∀ c C ns, w.cls c = some (C, ns) → ClsAt w.K C
  ca : CsAt w T X.mg
  isi : ∀ (t : Option Ty) (c : Ty) (u v : Value), c ∈ T.tys → tyVal w t = some u → tyVal w (some c) = some v → PySem.W.kitOne w.K u v = some (tyMatch t c)

section
variable {w : Wd} {T : Tab} {fuel k : Nat} {N : List Str} {ow sc : Scope} {W : WX} {X : Cx}

theorem vis_of {x : Str} (h : visB sc x = true) : Vis sc x := by
  unfold visB at h
  unfold Vis
  split at h <;> first | exact .inl (by assumption) | exact .inr (.inl (by assumption)) | exact .inr (.inr (by assumption)) | cases h
theorem gl_of (G : Good w T fuel k N ow sc W X) {x : Str} (h : glB sc x = true) : Gl X x := by
  unfold glB at h
  unfold Gl PySem.Env.kindOf
  rw [G.hsc]
  split at h
  · assumption
  · cases h
theorem loc_of {x : Str} (h : locB sc x = true) : L2.Loc sc x := by
  unfold locB at h
  unfold L2.Loc
  split at h <;> first | exact .inl (by assumption) | exact .inr (by assumption) | cases h
theorem pl_of {x : Str} (h : plB sc x = true) : sc.names.lookup x = some .local := by
  unfold plB at h
  split at h
  · assumption
  · cases h
theorem dbg_of {x : Str} (h : notDbg x = true) : (x == ("__debug__" : Str)) = false ∧ (x == ("__classdict__" : Str)) = false ∧ x ≠ "__name__" := by
  unfold notDbg at h
  simp only [Bool.and_eq_true, Bool.not_eq_true'] at h
  exact ⟨h.1.1.1, h.1.1.2, fun e => by rw [e] at h; exact absurd h.1.2 (by decide)⟩
theorem sup_of {x : Str} (h : notDbg x = true) : x ≠ "super" := by
  unfold notDbg at h
  simp only [Bool.and_eq_true, Bool.not_eq_true'] at h
  exact fun e => by rw [e] at h; exact absurd h.2 (by decide)

/-! ### constants and names -/
theorem de_lit {l : Lit} {c : Const} {j : Nat} {pos : Pos} (h : litB l c = true) : DE w W X (.Constant c j pos) (fun _ => pure l.val) := by
  cases l with
  | non => cases c <;> first | exact ⟨_, pe_non, fun ρ σ H env S Q re rs p => p.ok (by simp [Lit.val, RepV]) rs⟩ | cases h
  | bl b => cases c with
    | bool b' =>
      have e : b = b' := by simpa [litB] using h
      subst e
      exact ⟨_, pe_bl, fun ρ σ H env S Q re rs p => p.ok (by simp [Lit.val, RepV]) rs⟩
    | _ => cases h
  | int i => cases c with
    | int i' =>
      have e : i = i' := by simpa [litB] using h
      subst e
      exact ⟨_, pe_int, fun ρ σ H env S Q re rs p => p.ok (by simp [Lit.val, RepV]) rs⟩
    | _ => cases h
  | str x => cases c with
    | str x' =>
      have e : x = x' := by simpa [litB] using h
      subst e
      exact ⟨_, pe_str, fun ρ σ H env S Q re rs p => p.ok (by simp [Lit.val, RepV]) rs⟩
    | _ => cases h
theorem de_var (G : Good w T fuel k N ow sc W X) {i : Nat} {x : Str} {pos : Pos} (h : (decide (N[i]? = some x) && visB sc x && notDbg x) = true) : DE w W X (.Name x pos) (fun env => ofOpt (envGet env i)) := by
  simp only [Bool.and_eq_true, decide_eq_true_eq] at h
  obtain ⟨⟨h1, h2⟩, h3⟩ := h
  obtain ⟨d1, d2, _⟩ := dbg_of h3
  refine ⟨_, pe_var (i := i) (by rw [G.hN]; exact h1) (by rw [G.hsc]; exact vis_of h2) d1 d2, fun ρ σ H env S Q re rs p => ?_⟩
  unfold ofOpt at p
  cases q : envGet env i with
  | none => rw [q] at p; exact p.elim
  | some v =>
    rw [q] at p
    obtain ⟨y, e1, e2⟩ := re.get q
    exact ⟨y, e1, p.ok e2 rs⟩
theorem de_glob (G : Good w T fuel k N ow sc W X) {g : Nat} {x : Str} {pos : Pos} (h : (decide ((T.globs[g]?).map (·.1) = some x) && glB sc x && notDbg x) = true) : DE w W X (.Name x pos) (fun _ => ofOpt ((T.globs[g]?).map (·.2))) := by
  simp only [Bool.and_eq_true, decide_eq_true_eq] at h
  obtain ⟨⟨h1, h2⟩, h3⟩ := h
  obtain ⟨d1, d2, _⟩ := dbg_of h3
  cases q : T.globs[g]? with
  | none => rw [q] at h1; cases h1
  | some xv =>
    obtain ⟨x', v⟩ := xv
    rw [q] at h1
    have e : x' = x := Option.some.inj h1
    subst e
    obtain ⟨u, xv, m1, m2, m3⟩ := G.globs g x' v q
    refine ⟨_, pe_glob (v := xv) (gl_of G h2) m1 m2 d1, fun ρ σ H env S Q re rs p => ?_⟩
    exact p.ok (m3 ρ H) rs

/-! ### two-place steps -/
theorem de_bin2 {a b : Expr} {ma mb : Env → M Val} {op : Operator} {f : Val → Val → M Val} {r : R2} {pos : Pos} (ho : OpR X (binaryOp op) r) (ha : DE w W X a ma) (hb : DE w W X b mb)
    (hf : ∀ ρ σ H S x y u v (Q : VK), RepV w ρ H u x → RepV w ρ H v y → RepS w ρ H S → Post w W σ (RepV w) ρ H (f u v S) Q → r x y H Q) :
    DE w W X (.BinOp a op b pos) (fun env => do let x ← ma env; let y ← mb env; f x y) := by
  obtain ⟨ta, pa, qa⟩ := ha.ex
  obtain ⟨tb, pb, qb⟩ := hb.ex
  refine ⟨_, pe_op ho pa pb, fun ρ σ H env S Q re rs p => ?_⟩
  refine qa ρ σ H env S _ re rs (p.bind.imp fun x H1 ⟨u, ρ1, S1, e1, r1, s1, p1⟩ => ?_)
  refine qb ρ1 σ H1 env S1 _ (re.ext e1) s1 (p1.bind.imp fun y H2 ⟨v, ρ2, S2, e2, r2, s2, p2⟩ => ?_)
  exact hf ρ2 σ H2 S2 x y u v Q (r1.ext e2) r2 s2 p2
theorem de_cmp2 {a b : Expr} {ma mb : Env → M Val} {op : CmpOp} {f : Val → Val → M Val} {r : R2} {pos : Pos} (ho : OpR X (compareOp op) r) (ha : DE w W X a ma) (hb : DE w W X b mb) (hm : behindInMarks op b = false)
    (hf : ∀ ρ σ H S x y u v (Q : VK), RepV w ρ H u x → RepV w ρ H v y → RepS w ρ H S → Post w W σ (RepV w) ρ H (f u v S) Q → r x y H Q) :
    DE w W X (.Compare a [op] [b] pos) (fun env => do let x ← ma env; let y ← mb env; f x y) := by
  obtain ⟨ta, pa, qa⟩ := ha.ex
  obtain ⟨tb, pb, qb⟩ := hb.ex
  refine ⟨_, pe_cmpR ho pa pb hm, fun ρ σ H env S Q re rs p => ?_⟩
  refine qa ρ σ H env S _ re rs (p.bind.imp fun x H1 ⟨u, ρ1, S1, e1, r1, s1, p1⟩ => ?_)
  refine qb ρ1 σ H1 env S1 _ (re.ext e1) s1 (p1.bind.imp fun y H2 ⟨v, ρ2, S2, e2, r2, s2, p2⟩ => ?_)
  exact hf ρ2 σ H2 S2 x y u v Q (r1.ext e2) r2 s2 p2
theorem M.assoc {α β γ : Type} (m : M α) (f : α → M β) (g : β → M γ) : (m >>= f) >>= g = m >>= fun x => f x >>= g := by
  funext S
  show (match (match m S with | .ok a S' => f a S' | .exc x S' => .exc x S' | .bad => .bad : Res β) with | .ok a S' => g a S' | .exc x S' => .exc x S' | .bad => .bad) = (match m S with | .ok a S' => (f a >>= g) S' | .exc x S' => .exc x S' | .bad => .bad)
  cases m S <;> rfl
/-- a step that gives a truth, asked for its truth -/
theorem Post.asked {w : Wd} {W : WX} {σ : L2.St} {ρ : List Addr} {H : Hp} {S : Store} {m : M Val} {Q : Bool → Hp → Prop} (h : Post w W σ (fun _ _ a b => a = b) ρ H ((m >>= truthM) S) Q)
    (hb : ∀ v S', m S = .ok v S' → ∃ c, v = .bl c) : Post w W σ (RepV w) ρ H (m S) (fun z H' => ∃ c, z = .bl c ∧ Q c H') := by
  rw [bind_app] at h
  cases q : m S with
  | ok v S1 =>
    rw [q] at h
    obtain ⟨c, rfl⟩ := hb v S1 q
    refine fun x ρ1 H1 e1 e2 e3 => ?_
    simp only [RepV] at e2
    exact ⟨c, e2, h c ρ1 H1 e1 rfl e3⟩
  | exc x S1 => rw [q] at h; exact h
  | bad => rw [q] at h; exact h
/-- a comparison as a test -/
theorem dt_cmp2 {a b : Expr} {ma mb : Env → M Val} {op : CmpOp} {f : Val → Val → M Val} {r : R2} {pos : Pos} (ho : OpR X (compareOp op) r) (ha : DE w W X a ma) (hb : DE w W X b mb) (hm : behindInMarks op b = false)
    (hf : ∀ ρ σ H S x y u v (Q : VK), RepV w ρ H u x → RepV w ρ H v y → RepS w ρ H S → Post w W σ (RepV w) ρ H (f u v S) Q → r x y H Q)
    (hbool : ∀ u v S v' S', f u v S = .ok v' S' → ∃ c, v' = .bl c) :
    DT w W X (.Compare a [op] [b] pos) (fun env => (do let x ← ma env; let y ← mb env; f x y) >>= truthM) := by
  obtain ⟨ta, pa, qa⟩ := ha.ex
  obtain ⟨tb, pb, qb⟩ := hb.ex
  refine ⟨_, pt_cmpR ho pa pb hm, fun ρ σ H env S Q re rs p => ?_⟩
  simp only [M.assoc] at p
  refine qa ρ σ H env S _ re rs (p.bind.imp fun x H1 ⟨u, ρ1, S1, e1, r1, s1, p1⟩ => ?_)
  refine qb ρ1 σ H1 env S1 _ (re.ext e1) s1 (p1.bind.imp fun y H2 ⟨v, ρ2, S2, e2, r2, s2, p2⟩ => ?_)
  exact hf ρ2 σ H2 S2 x y u v _ (r1.ext e2) r2 s2 (p2.asked (hbool u v S2))
end
end Pd

/-! Pd: own exceptions: Base.__init__(self, ..) of an own class, fields, isinstance of a caught one with fields. -/
namespace Pd
open PySem PySem.Spec L2 PyProof.Rows
section
variable {X : Cx} {e : Expr} {es : List Expr} {ta : TA} {p1 p2 pos : Pos} {x : Str} {B : Addr}
theorem pe_cinit {pl : Sem Bool} (hg : Gl X x) (hm : X.mg x = some (.ref B)) (hga : PySem.W.specialIn X.K (.ref B) "__getattribute__" = some (some (.builtin "type.__getattribute__")))
    (hr : PySem.W.readsIn X.K B (.type "type") = true) (hv : PySem.W.findCls X.K (.ref B) (.type "type") "__init__" = some (.val (.builtin "ValueError.__init__"))) (hdb : (x == ("__debug__" : Str)) = false) (ha : PA X (e :: es) ta)
    (hc : eval (.Call (.Attribute (.Name x p1) "__init__" p2) (e :: es) [] pos) X.env = (do
      let ov ← eval (.Name x p1) X.env
      standAt p2.atName
      let (f, first) ← holding [ov] (getMethod ov "__init__" pl)
      callWith pos f first (backTo pos (starEach (e :: es) X.env)) (backToKw pos (keywordEach [] X.env))))
    (he : starEach (e :: es) X.env = (false, eval e X.env) :: starEach es X.env) (hpl : (backTo pos (starEach es X.env)).any (·.1) = false) :
    PE X (.Call (.Attribute (.Name x p1) "__init__" p2) (e :: es) [] pos) (tVeI X.K ta) := by
  refine ⟨fun pins s σ H Q I h => ?_⟩
  refine PySem.W.methodCall_KW (ld_glob I hg hm ?_ hdb) hc
  refine PySem.W.method_cls I.kIn hga ?_
  refine PySem.W.cls_value I.kIn hr hv rfl ?_
  refine PyProof.Rows.callWith_method1 (thn (ha.run pos pins _ σ H _ (I.tok _) h) fun us s1 ⟨vs, H1, I1, r1, a, C, ws, ev, hl, T, ea, q⟩ => ?_) he hpl
  subst ev
  cases r1 with
  | @cons _ u0 _ ur ra rw' =>
    obtain rfl : u0 = Value.ref a := ra
    have hlen : ur.length ≤ sizeLine := by
      rw [← Paired.length rw', sizeLine_eq]
      omega
    exact oinit_ok T I1 ea hlen fun s' J => ⟨.non, H1, J, rfl, q⟩
end

/-! ### the __init__ of such a class -/
/-- Base.__init__(self, 'text'); self.f = f; .. -/
def chkSt (f : Str) : Stmt → Bool
  | .Assign [.Attribute (.Name s _) g _] (.Name p _) _ => decide (s = ("self" : Str)) && decide (g = f) && decide (p = f) && notDbg f
  | _ => false
def chkSts : List Str → List Stmt → Bool
  | [], [] => true
  | f :: fs, s :: ss => chkSt f s && chkSts fs ss
  | _, _ => false
def chkIn (sc : Scope) (base : Str) (flds : List Str) : List Stmt → Bool
  | .Expr (.Call (.Attribute (.Name b _) a ap) [.Name s _, .Constant (.str _) _ _] [] cp) _ :: ss => (ap.endLine == cp.line) && decide (b = base) && glB sc base && notDbg base && decide (a = ("__init__" : Str)) && decide (s = ("self" : Str)) && chkSts flds ss
  | _ => false
/-- what __init__ promises -/
def spIn (K : PySem.W.Frag) (C : Addr) (flds : List Str) : Sp := fun vs H Q _ => ∃ (a : Addr) (ws : List V), vs = .ref a :: ws ∧ ws.length = flds.length ∧ H a = some (exo a C none) ∧
  ∀ dx, H dx = none → dx ≠ a → Q .non (upd (upd H dx (exd dx (flds.zip ws).reverse)) a (exo a C (some dx)))
theorem upd_twice {H : Hp} {a : Addr} {o u : HO} : upd (upd H a o) a u = upd H a u := by
  funext b
  by_cases h : b = a
  · subst h
    rw [upd_same, upd_same]
  · rw [upd_ne h, upd_ne h, upd_ne h]
theorem upd_swap {H : Hp} {a b : Addr} {o u : HO} (h : a ≠ b) : upd (upd H a o) b u = upd (upd H b u) a o := by
  funext c
  by_cases h1 : c = a
  · subst h1
    rw [upd_ne h, upd_same, upd_same]
  · by_cases h2 : c = b
    · subst h2
      rw [upd_same, upd_ne h1, upd_same]
    · rw [upd_ne h2, upd_ne h1, upd_ne h1, upd_ne h2]
section
variable {X : Cx} {C : Addr}
theorem set_rest (T : OexC X.K C) (h0 : X.N[0]? = some ("self" : Str)) (hv0 : Vis X.env.scope ("self" : Str)) : ∀ (fs : List Str) (ss : List Stmt) (j : Nat), chkSts fs ss = true → (∀ (m : Nat) (f : Str), fs[m]? = some f → X.N[j + m]? = some f ∧ Vis X.env.scope f ∧ PySem.W.findIn X.K (.ref C) f = some none) →
    ∃ t, PSs X ss t ∧ ∀ (D : Ends) (σ : L2.St) (H : Hp) (a dx : Addr) (done : List (Str × V)) (ws : List V), ws.length = fs.length → dx ≠ a → σ[0]? = some (some (.ref a)) → (∀ (m : Nat) (v : V), ws[m]? = some v → σ[j + m]? = some (some v)) → H a = some (exo a C (some dx)) → H dx = some (exd dx done) → done.length + fs.length ≤ 900 →
      D.nx σ (upd H dx (exd dx ((fs.zip ws).reverse ++ done))) → t D σ H
  | [], ss, j, hc, _ => by
    cases ss with
    | cons _ _ => simp [chkSts] at hc
    | nil =>
      refine ⟨_, pss_nil, fun D σ H a dx done ws hl _ _ _ _ hd _ q => ?_⟩
      have : upd H dx (exd dx done) = H := by
        funext b
        by_cases hb : b = dx
        · rw [hb, upd_same, hd]
        · rw [upd_ne hb]
      simp only [List.zip_nil_left, List.reverse_nil, List.nil_append, this] at q
      exact q
  | f :: fs, ss, j, hc, hN => by
    cases ss with
    | nil => simp [chkSts] at hc
    | cons st ss =>
      simp only [chkSts, Bool.and_eq_true] at hc
      obtain ⟨hc1, hc2⟩ := hc
      obtain ⟨t, pt, qt⟩ := set_rest T h0 hv0 fs ss (j + 1) hc2 (fun m g hg => by
        have := hN (m + 1) g (by simpa using hg)
        rw [show j + 1 + m = j + (m + 1) by omega]
        exact this)
      unfold chkSt at hc1
      split at hc1
      · rename_i s sp g gp p pp ap
        simp only [Bool.and_eq_true, decide_eq_true_eq] at hc1
        obtain ⟨⟨⟨rfl, rfl⟩, rfl⟩, hdb⟩ := hc1
        obtain ⟨d1, d2, _⟩ := dbg_of hdb
        obtain ⟨n1, n2, n3⟩ := hN 0 p rfl
        have P1 : PE X (.Name p pp) (tVar j) := pe_var n1 n2 d1 d2
        have P0 : PE X (.Name ("self" : Str) sp) (tVar 0) := pe_var (x := ("self" : Str)) h0 hv0
        refine ⟨_, pss_cons (ps_ost P0 P1) pt, fun D σ H a dx done ws hl ne s0 sw ha hd hz q => ?_⟩
        match ws, hl with
        | v :: ws, hl =>
          refine ⟨v, sw 0 v rfl, ⟨_, s0, ⟨a, C, rfl, T, n3, .inr ⟨dx, done, ha, hd, by simp only [List.length_cons] at hz; omega, ?_⟩⟩⟩⟩
          refine qt D σ _ a dx ((p, v) :: done) ws (by simpa using hl) ne s0 (fun m u hu => by rw [show j + 1 + m = j + (m + 1) by omega]; exact sw (m + 1) u (by simpa using hu)) ?_ upd_same (by simp only [List.length_cons] at hz ⊢; omega) ?_
          · rw [upd_ne ne.symm]
            exact ha
          · rw [upd_twice]
            simpa using q
      · cases hc1
/-- the whole body -/
theorem set_first (T : OexC X.K C) (h0 : X.N[0]? = some ("self" : Str)) (hv0 : Vis X.env.scope ("self" : Str)) {f : Str} {fs : List Str} {ss : List Stmt} (hc : chkSts (f :: fs) ss = true) (hN : ∀ (m : Nat) (g : Str), (f :: fs)[m]? = some g → X.N[1 + m]? = some g ∧ Vis X.env.scope g ∧ PySem.W.findIn X.K (.ref C) g = some none) :
    ∃ t, PSs X ss t ∧ ∀ (D : Ends) (σ : L2.St) (H : Hp) (a : Addr) (ws : List V), ws.length = fs.length + 1 → σ[0]? = some (some (.ref a)) → (∀ (m : Nat) (v : V), ws[m]? = some v → σ[1 + m]? = some (some v)) → H a = some (exo a C none) → fs.length ≤ 800 →
      (∀ dx, H dx = none → dx ≠ a → D.nx σ (upd (upd H dx (exd dx (((f :: fs).zip ws).reverse))) a (exo a C (some dx)))) → t D σ H := by
  cases ss with
  | nil => simp [chkSts] at hc
  | cons st ss =>
    simp only [chkSts, Bool.and_eq_true] at hc
    obtain ⟨hc1, hc2⟩ := hc
    obtain ⟨t, pt, qt⟩ := set_rest T h0 hv0 fs ss 2 hc2 (fun m g hg => by
      have := hN (m + 1) g (by simpa using hg)
      rw [show 2 + m = 1 + (m + 1) by omega]
      exact this)
    unfold chkSt at hc1
    split at hc1
    · rename_i s sp g gp p pp ap
      simp only [Bool.and_eq_true, decide_eq_true_eq] at hc1
      obtain ⟨⟨⟨rfl, rfl⟩, rfl⟩, hdb⟩ := hc1
      obtain ⟨d1, d2, _⟩ := dbg_of hdb
      obtain ⟨n1, n2, n3⟩ := hN 0 p rfl
      have P1 : PE X (.Name p pp) (tVar 1) := pe_var n1 n2 d1 d2
      have P0 : PE X (.Name ("self" : Str) sp) (tVar 0) := pe_var (x := ("self" : Str)) h0 hv0
      refine ⟨_, pss_cons (ps_ost P0 P1) pt, fun D σ H a ws hl s0 sw ha hz q => ?_⟩
      match ws, hl with
      | v :: ws, hl =>
        refine ⟨v, sw 0 v rfl, ⟨_, s0, ⟨a, C, rfl, T, n3, .inl ⟨ha, fun dx hd ne => ?_⟩⟩⟩⟩
        refine qt D σ _ a dx [(p, v)] ws (by simpa using hl) ne s0 (fun m u hu => by rw [show 2 + m = 1 + (m + 1) by omega]; exact sw (m + 1) u (by simpa using hu)) upd_same (by rw [upd_ne ne, upd_same]) (by simp only [List.length_cons, List.length_nil]; omega) ?_
        have := q dx hd ne
        rw [upd_swap ne, upd_twice, upd_swap ne.symm]
        simpa using this
    · cases hc1
end
/-- what the written part says of an own class whose __init__ keeps its arguments as fields -/
structure XcAt (K : PySem.W.Frag) (mg : Str → Option Value) (base : Str) (flds : List Str) (C f1 : Addr) : Prop where
  ox : OexC K C
  iC : PySem.W.findIn K (.ref C) "__init__" = some (some (.ref f1))
  tI : PySem.W.typeIn K (.ref f1) = some (.type "function")
  no : ∀ f ∈ flds, PySem.W.findIn K (.ref C) f = some none
  few : flds ≠ [] ∧ flds.length ≤ 800
  bas : ∃ B, mg base = some (.ref B) ∧ PySem.W.specialIn K (.ref B) "__getattribute__" = some (some (.builtin "type.__getattribute__")) ∧ PySem.W.readsIn K B (.type "type") = true ∧ PySem.W.findCls K (.ref B) (.type "type") "__init__" = some (.val (.builtin "ValueError.__init__"))
  fn : ∃ (name qual : Str) (params : Arguments) (body : List Stmt) (scope : Scope) (dV kV doc pm cdv ct oc : Value) (an od : Option Addr) (osl : Array (Option Value)),
    K.lookup f1 = some ⟨oc, od, .func (PySem.W.fnOf name qual params body scope dV kV doc pm an cdv ct), osl⟩ ∧ PySem.W.codeIn K cdv qual = true ∧ FnScope (("self" : Str) :: flds) (("self" : Str) :: flds) scope ∧
      Binds K (PySem.W.fnOf name qual params body scope dV kV doc pm an cdv ct) (("self" : Str) :: flds) [] ∧ chkIn scope base flds body = true
theorem call_form {b n s : Str} {bp ap pos snp cj : Pos} {cp : Nat} {c : Const} {env : PySem.Env} (hl : (ap.endLine == pos.line) = true) : eval (.Call (.Attribute (.Name b bp) n ap) [.Name s snp, .Constant c cp cj] [] pos) env = (do
      let ov ← eval (.Name b bp) env
      standAt ap.atName
      let (f, first) ← holding [ov] (getMethod ov n (do return (← importBound (.Name b bp) env).getD true))
      callWith pos f first (backTo pos (starEach [.Name s snp, .Constant c cp cj] env)) (backToKw pos (keywordEach [] env))) := by
  show (do
    let ov ← eval (.Name b bp) env
    standAt ap.atName
    methodCall (.Name b bp) n ap pos env ov 2 (backTo pos (starEach [.Name s snp, .Constant c cp cj] env)) (backToKw pos (keywordEach [] env))) = _
  unfold methodCall methodCallPos
  simp only [hl, Bool.or_true, if_true]
  rfl
section
variable {P : Program} {w : World} {K : PySem.W.Frag} {mg : Str → Option Value} {base : Heap} {bn : Str} {flds : List Str} {C f1 : Addr}
theorem init_ok (Z : XcAt K mg bn flds C f1) : ∃ fd, FnOk P w K mg base CX0 1 f1 fd (("self" : Str) :: flds) (spIn K C flds) ∧ Binds K fd (("self" : Str) :: flds) [] := by
  obtain ⟨name, qual, params, body, scope, dV, kV, doc, pm, cdv, ct, oc, an, od, osl, lk, hcd, S, hb, hc⟩ := Z.fn
  refine ⟨_, fn_of lk hcd S (fun vs H Q E ⟨a, ws, e1, e2, _⟩ => by rw [e1]; simp [e2]) (fun A outer s H vs Q E hr ⟨a, ws, e1, e2, e3, e4⟩ => ?_), hb⟩
  subst e1
  unfold chkIn at hc
  split at hc
  · rename_i b bp an' ap sn snp j cp cj callp stp ss
    simp only [Bool.and_eq_true, decide_eq_true_eq] at hc
    obtain ⟨⟨⟨⟨⟨⟨hln, rfl⟩, hg⟩, hdb⟩, rfl⟩, rfl⟩, hss⟩ := hc
    obtain ⟨d1, d2, _⟩ := dbg_of hdb
    obtain ⟨B, m1, m2, m3, m4⟩ := Z.bas
    have hv : ∀ x ∈ ("self" : Str) :: flds, Vis scope x := fun x hx => by
      rcases S.par x hx with q | q
      · exact .inl q
      · exact .inr (.inl q)
    obtain ⟨f, fs, hf⟩ : ∃ f fs, flds = f :: fs := by
      cases e : flds with
      | nil => exact absurd e Z.few.1
      | cons f fs => exact ⟨f, fs, rfl⟩
    obtain ⟨t, pt, qt⟩ := set_first (X := cxOf CX0 P w K mg base (("self" : Str) :: flds) qual scope f1 cdv A outer s H E) (C := C) Z.ox rfl (hv _ List.mem_cons_self) (f := f) (fs := fs) (ss := ss) (by rw [← hf]; exact hss) (fun m g hg => by
      rw [← hf] at hg
      refine ⟨?_, hv g (List.mem_cons_of_mem _ (List.mem_of_getElem? hg)), Z.no g (List.mem_of_getElem? hg)⟩
      show (("self" : Str) :: flds)[1 + m]? = some g
      rw [Nat.add_comm, List.getElem?_cons_succ]
      exact hg)
    have PI := pe_cinit (X := cxOf CX0 P w K mg base (("self" : Str) :: flds) qual scope f1 cdv A outer s H E) (p1 := bp) (p2 := ap) (pos := callp) (x := b) (e := .Name ("self" : Str) snp) (es := [.Constant (.str j) cp cj]) (by
      show scope.names.lookup b = some .globalImplicit
      unfold glB at hg
      split at hg
      · assumption
      · cases hg) m1 m2 m3 m4 d1 (pa_cons (pe_var (x := ("self" : Str)) (i := 0) rfl (hv _ List.mem_cons_self)) (pa_cons pe_str pa_nil)) (call_form hln) (by rfl) (by rfl)
    refine ⟨_, pss_cons (ps_expr PI) pt, ?_⟩
    refine ⟨.ref a, rfl, ?_⟩
    show ∃ (a' C' : Addr) (ws' : List V), [V.ref a, .str j] = .ref a' :: ws' ∧ ws'.length ≤ 1000 ∧ OexC K C' ∧ H a' = some (exo a' C' none) ∧ _
    refine ⟨a, C, [.str j], rfl, by simp, Z.ox, e3, ?_⟩
    have hst : L2.start (("self" : Str) :: flds) (V.ref a :: ws) = some (.ref a) :: ws.map some := by
      unfold L2.start
      simp [e2]
    refine qt _ _ H a ws (by rw [e2, hf]; rfl) (by rw [hst]; rfl) (fun m v hv => ?_) e3 (by have := Z.few.2; rw [hf, List.length_cons] at this; omega) (fun dx h1 h2 => by
      show Q .non _
      rw [← hf]
      exact e4 dx h1 h2)
    rw [hst, Nat.add_comm, List.getElem?_cons_succ, List.getElem?_map, hv]
    rfl
  · cases hc
end
theorem mk_read {K : PySem.W.Frag} {C : Addr} {flds : List Str} {H1 : Hp} {vs : List V} {Q : XK} (hl : vs.length = flds.length) (hz : flds.length ≤ 800) (q : ∀ dx, H1 dx = none → Q (.ref C) (some dx) (upd H1 dx (.xd (flds.zip vs).reverse))) :
    vs.length ≤ 1000 ∧ ∀ a, H1 a = none → spIn K C flds (.ref a :: (vs ++ [])) (upd H1 a (exo a C none))
      (fun v H2 => v = .non ∧ ∃ (d : Addr) (fs : List (Str × V)), H2 a = some (exo a C (some d)) ∧ H2 d = some (exd d fs) ∧ H1 d = none ∧ Q (.ref C) (some d) (upd (del H2 a) d (.xd fs))) (fun _ _ _ => False) := by
  refine ⟨by omega, fun a hn => ⟨a, vs ++ [], rfl, by simpa using hl, upd_same, fun dx hd ne => ?_⟩⟩
  have hd1 : H1 dx = none := by rw [upd_ne ne] at hd; exact hd
  refine ⟨rfl, dx, (flds.zip vs).reverse, upd_same, by rw [upd_ne ne, upd_same, List.append_nil], hd1, ?_⟩
  have e : upd (del (upd (upd (upd H1 a (exo a C none)) dx (exd dx (flds.zip (vs ++ [])).reverse)) a (exo a C (some dx))) a) dx (.xd (flds.zip vs).reverse) = upd H1 dx (.xd (flds.zip vs).reverse) := by
    funext b
    by_cases h1 : b = dx
    · rw [h1, upd_same, upd_same]
    · rw [upd_ne h1, upd_ne h1]
      by_cases h2 : b = a
      · rw [h2, del_same, hn]
      · rw [del_ne h2, upd_ne h2, upd_ne h1, upd_ne h2]
  rw [e]
  exact q dx hd1
/-! ### what a text says of its exceptions' classes -/
def xVal (w : Wd) (c : Nat) (d : XD) : Option Value := match d.ty with
  | none => (w.exc c).map Value.ref
  | some t => some (.type t)
def XnAt (w : Wd) (mg : Str → Option Value) (c : Nat) (d : XD) : Prop := match d.ty with
  | none => ∃ C, w.exc c = some C ∧ mg d.name = some (.ref C)
  | some t => mg d.name = none ∧ bootBuiltins d.name = some (.type t)
/-- an own class without an __init__ of its own, raised with what things soever -/
structure PlAt (K : PySem.W.Frag) (C : Addr) : Prop where
  ex : ∃ (B newId initId : String) (bm : List Value), ExcBaseFacts B newId initId bm ∧ PySem.W.excIn K C bm newId = true
  kp : PySem.W.keepIn K (.ref C) = true
  sb : PySem.W.subIn K (.ref C) (.type "BaseException") = some true
  ty : PySem.W.typeIn K (.ref C) = some (.type "type")
structure GoodX (w : Wd) (T : Tab) (mg : Str → Option Value) : Prop where
  nm : ∀ (c : Nat) (d : XD), T.xs[c]? = some d → XnAt w mg c d
  own : ∀ (c : Nat) (d : XD) (C : Addr), T.xs[c]? = some d → (d.flds ≠ [] ∨ d.pl = true) → w.exc c = some C → ((d.flds ≠ [] → ∃ f1, XcAt w.K mg d.base d.flds C f1) ∧ (d.flds = [] → PlAt w.K C)) ∧ ExcC w.K C ∧ XfC w.K C ∧ (∀ f ∈ T.xs.flatMap (·.flds), PySem.W.findIn w.K (.ref C) f = some none) ∧
    ∀ (c2 : Nat) (d2 : XD) (v : Value), T.xs[c2]? = some d2 → xVal w c2 d2 = some v → PySem.W.kitOne w.K (.ref C) v = some (d.sups.contains c2) ∧ PySem.W.exmOne w.K (.ref C) v = some (d.sups.contains c2)
end Pd

/-! Pd, part 5: rules for truth, and, or, not, displays, calls. -/
namespace Pd
open PySem PySem.Spec L2

theorem RepVs.isEmpty {w : Wd} {ρ : List Addr} {H : Hp} {xs : List Val} {vs : List V} (h : RepVs w ρ H xs vs) : vs.isEmpty = xs.isEmpty := by
  have := h.length
  cases xs <;> cases vs <;> simp_all
theorem RepKV.length {κ : Type} {w : Wd} {ρ : List Addr} {H : Hp} : ∀ {xs : List (κ × Val)} {vs : List (κ × V)}, RepKV w ρ H xs vs → vs.length = xs.length
  | [], _, h => by simp only [RepKV] at h; subst h; rfl
  | (k, x) :: xs, _, h => by
    simp only [RepKV] at h
    obtain ⟨v, r, rfl, _, h3⟩ := h
    simp [RepKV.length h3]

section
variable {w : Wd} {ρ : List Addr} {H : Hp} {S : Store}
theorem lst_at (rs : RepS w ρ H S) {i : Nat} {a : Addr} {xs : List Val} (h : ρ[i]? = some a) (e : S[i]? = some (.lst xs)) : ∃ vs, H a = some (.lst vs) ∧ RepVs w ρ H xs vs := by
  obtain ⟨o, h1, vs, rfl, h2⟩ := rs.cell i a _ h e
  exact ⟨vs, h1, h2⟩
theorem dct_at (rs : RepS w ρ H S) {i : Nat} {a : Addr} {xs : List (DKey × Val)} (h : ρ[i]? = some a) (e : S[i]? = some (.dct xs)) : ∃ vs, H a = some (.dK vs) ∧ RepKV w ρ H xs vs := by
  obtain ⟨o, h1, vs, rfl, h2⟩ := rs.cell i a _ h e
  exact ⟨vs, h1, h2⟩
theorem dtt_at (rs : RepS w ρ H S) {i : Nat} {a : Addr} {xs : List (List DKey × Val)} (h : ρ[i]? = some a) (e : S[i]? = some (.dtt xs)) : ∃ vs, H a = some (.dT vs) ∧ RepKV w ρ H xs vs := by
  obtain ⟨o, h1, vs, rfl, h2⟩ := rs.cell i a _ h e
  exact ⟨vs, h1, h2⟩
theorem size_eq : sizeMax = sizeLine := by rw [sizeLine_eq]; rfl

theorem tru_of (rs : RepS w ρ H S) {v : Val} {x : V} {b : Bool} (r : RepV w ρ H v x) (h : truth S v = some b) : TruV w.K x H b := by
  cases v with
  | non => simp only [RepV] at r; subst r; simp [truth] at h; subst h; rfl
  | bl c => simp only [RepV] at r; subst r; simp [truth] at h; subst h; rfl
  | int i => simp only [RepV] at r; subst r; simp [truth] at h; subst h; rfl
  | str y =>
    simp only [RepV] at r; subst r
    unfold truth at h
    dsimp only at h
    split at h
    · rename_i hz
      have e := Option.some.inj h
      refine ⟨by rw [← size_eq]; exact hz, ?_⟩
      rw [← e]
      by_cases q : y.length = 0
      · rw [q]; rfl
      · have a : (y.length : Int) ≠ 0 := by omega
        rw [bne_iff_ne.mpr q, bne_iff_ne.mpr a]
    · cases h
  | tup xs =>
    simp only [RepV] at r
    obtain ⟨a, vs, rfl, h1, h2⟩ := r
    have e := Option.some.inj h
    exact .inr (.inl ⟨vs, h1.sq, by rw [← e, h2.isEmpty]⟩)
  | ins c fs => cases h
  | scr ns =>
    simp only [RepV] at r
    obtain ⟨a, rfl, h1⟩ := r
    have e := Option.some.inj h
    refine .inl ⟨_, h1.sq, ?_⟩
    rw [← e]
    cases ns <;> rfl
  | ref i =>
    simp only [RepV] at r
    obtain ⟨a, rfl, h1⟩ := r
    unfold truth at h
    dsimp only at h
    split at h
    · rename_i xs q
      obtain ⟨vs, h2, h3⟩ := lst_at rs h1 q
      have e := Option.some.inj h
      exact .inl ⟨vs, SqL.of h2, by rw [← e, h3.isEmpty]⟩
    · rename_i kvs q
      obtain ⟨vs, h2, h3⟩ := dct_at rs h1 q
      have e := Option.some.inj h
      refine .inr (.inr ⟨vs, h2, ?_⟩)
      have := h3.length
      rw [← e]
      cases kvs <;> cases vs <;> simp_all
    · cases h
end

section
variable {w : Wd} {T : Tab} {fuel k : Nat} {N : List Str} {ow sc : Scope} {W : WX} {X : Cx}

/-- what truthM tells -/
theorem Post.truth {σ : L2.St} {ρ : List Addr} {H : Hp} {S : Store} {v : Val} {x : V} {Q : Bool → Hp → Prop} (p : Post w W σ (fun _ _ a b => a = b) ρ H (truthM v S) Q) (r : RepV w ρ H v x) (rs : RepS w ρ H S) :
    ∃ b, TruV w.K x H b ∧ Q b H := by
  unfold truthM at p
  cases q : Pd.truth S v with
  | none => rw [q] at p; exact p.elim
  | some b => rw [q] at p; exact ⟨b, tru_of rs r q, p.ok rfl rs⟩

theorem dt_plain (G : Good w T fuel k N ow sc W X) {e : Expr} {m : Env → M Val} (h : DE w W X e m) (he : ∀ whole, isTrue e X.env whole = (do let v ← whole; standAt e.pos; holding [v] (truthy v))) : DT w W X e (fun env => m env >>= truthM) := by
  obtain ⟨t, pt, q⟩ := h.ex
  refine ⟨_, pt_truth pt he, fun ρ σ H env S Q re rs p => ?_⟩
  refine q ρ σ H env S _ re rs (p.bind.imp fun x H1 ⟨u, ρ1, S1, e1, r1, s1, p1⟩ => ?_)
  obtain ⟨b, h1, h2⟩ := p1.truth r1 s1
  exact ⟨b, by rw [G.hK]; exact h1, h2⟩

theorem de_not (G : Good w T fuel k N ow sc W X) {e : Expr} {m : Env → M Val} {pos : Pos} (h : DE w W X e m) : DE w W X (.UnaryOp .Not e pos) (fun env => do let x ← m env; let t ← truthM x; pure (.bl (!t))) := by
  obtain ⟨t, pt, q⟩ := h.ex
  refine ⟨_, pe_notT pt, fun ρ σ H env S Q re rs p => ?_⟩
  refine q ρ σ H env S _ re rs (p.bind.imp fun x H1 ⟨u, ρ1, S1, e1, r1, s1, p1⟩ => ?_)
  obtain ⟨b, h1, c, ρ2, S2, e2, rfl, s2, p2⟩ := (p1.bind (rel := fun _ _ a b => a = b)).truth r1 s1
  exact ⟨c, by rw [G.hK]; exact h1, p2.ok (by simp [RepV]) s2⟩
theorem dt_not {e : Expr} {m : Env → M Val} {pos : Pos} (h : DT w W X e (fun env => m env >>= truthM)) : DT w W X (.UnaryOp .Not e pos) (fun env => (do let x ← m env; let t ← truthM x; pure (.bl (!t))) >>= truthM) := by
  obtain ⟨t, pt, q⟩ := h.ex
  refine ⟨_, pt_not pt, fun ρ σ H env S Q re rs p => ?_⟩
  have e1 : ((do let x ← m env; let t ← truthM x; pure (.bl (!t))) >>= truthM : M Bool) = ((m env >>= truthM) >>= fun t => pure (!t)) := by
    rw [M.assoc, M.assoc]
    congr 1
    funext x
    rw [M.assoc]
    rfl
  rw [e1] at p
  refine q ρ σ H env S _ re rs (p.bind.imp fun b H1 ⟨c, ρ1, S1, e1, r1, s1, p1⟩ => ?_)
  subst r1
  exact p1.ok rfl s1
theorem de_and (G : Good w T fuel k N ow sc W X) {a b : Expr} {r : List Expr} {ma mb : Env → M Val} {pos : Pos} (ha : DE w W X a ma) (hb : DE w W X (.BoolOp .And (b :: r) pos) mb) :
    DE w W X (.BoolOp .And (a :: b :: r) pos) (fun env => do let x ← ma env; let t ← truthM x; if t then mb env else pure x) := by
  obtain ⟨ta, pa, qa⟩ := ha.ex
  obtain ⟨tb, pb, qb⟩ := hb.ex
  refine ⟨_, pe_andT pa pb, fun ρ σ H env S Q re rs p => ?_⟩
  refine qa ρ σ H env S _ re rs (p.bind.imp fun x H1 ⟨u, ρ1, S1, e1, r1, s1, p1⟩ => ?_)
  obtain ⟨b, h1, c, ρ2, S2, e2, rfl, s2, p2⟩ := (p1.bind (rel := fun _ _ a b => a = b)).truth r1 s1
  refine ⟨c, by rw [G.hK]; exact h1, ?_⟩
  cases c with
  | true => exact qb ρ2 σ H1 env S2 _ (re.ext (e1.trans e2)) s2 p2
  | false => exact p2.ok (r1.ext e2) s2
theorem de_or (G : Good w T fuel k N ow sc W X) {a b : Expr} {r : List Expr} {ma mb : Env → M Val} {pos : Pos} (ha : DE w W X a ma) (hb : DE w W X (.BoolOp .Or (b :: r) pos) mb) :
    DE w W X (.BoolOp .Or (a :: b :: r) pos) (fun env => do let x ← ma env; let t ← truthM x; if t then pure x else mb env) := by
  obtain ⟨ta, pa, qa⟩ := ha.ex
  obtain ⟨tb, pb, qb⟩ := hb.ex
  refine ⟨_, pe_orT pa pb, fun ρ σ H env S Q re rs p => ?_⟩
  refine qa ρ σ H env S _ re rs (p.bind.imp fun x H1 ⟨u, ρ1, S1, e1, r1, s1, p1⟩ => ?_)
  obtain ⟨b, h1, c, ρ2, S2, e2, rfl, s2, p2⟩ := (p1.bind (rel := fun _ _ a b => a = b)).truth r1 s1
  refine ⟨c, by rw [G.hK]; exact h1, ?_⟩
  cases c with
  | true => exact p2.ok (r1.ext e2) s2
  | false => exact qb ρ2 σ H1 env S2 _ (re.ext (e1.trans e2)) s2 p2
theorem de_one {op : BoolOp} {a : Expr} {ma : Env → M Val} {pos : Pos} (ha : DE w W X a ma) : DE w W X (.BoolOp op [a] pos) ma := by
  obtain ⟨ta, pa, qa⟩ := ha.ex
  exact ⟨_, pe_one pa, qa⟩

/-! ### and, or in tests -/
structure DW (w : Wd) (W : WX) (X : Cx) (e : Expr) (m : Env → M Bool) : Prop where
  ex : ∃ t, PW X e t ∧ ∀ ρ σ H env S (Q : Bool → Hp → Prop), RepE w ρ H env σ → RepS w ρ H S → Post w W σ (fun _ _ a b => a = b) ρ H (m env S) Q → t σ H Q
theorem DW.dt {e : Expr} {m : Env → M Bool} (h : DW w W X e m) : DT w W X e m := by
  obtain ⟨t, pt, q⟩ := h.ex
  exact ⟨t, pt.pt, q⟩
theorem dw_and1 {a : Expr} {m : Env → M Bool} {pos : Pos} (h : DT w W X a m) : DW w W X (.BoolOp .And [a] pos) m := by
  obtain ⟨t, pt, q⟩ := h.ex
  exact ⟨t, pw_and1 pt, q⟩
theorem dw_or1 {a : Expr} {m : Env → M Bool} {pos : Pos} (h : DT w W X a m) : DW w W X (.BoolOp .Or [a] pos) m := by
  obtain ⟨t, pt, q⟩ := h.ex
  exact ⟨t, pw_or1 pt, q⟩
theorem dw_and {a b : Expr} {r : List Expr} {ma mb : Env → M Val} {pos : Pos} (ha : DT w W X a (fun env => ma env >>= truthM)) (hb : DW w W X (.BoolOp .And (b :: r) pos) (fun env => mb env >>= truthM)) :
    DW w W X (.BoolOp .And (a :: b :: r) pos) (fun env => (do let x ← ma env; let t ← truthM x; if t then mb env else pure x) >>= truthM) := by
  obtain ⟨ta, pa, qa⟩ := ha.ex
  obtain ⟨tb, pb, qb⟩ := hb.ex
  refine ⟨_, pw_and pa pb, fun ρ σ H env S Q re rs p => ?_⟩
  have e : ∀ S, ((do let x ← ma env; let t ← truthM x; if t then mb env else pure x) >>= truthM : M Bool) S = ((ma env >>= truthM) >>= fun t => if t = true then mb env >>= truthM else pure false) S := fun S => by
    rw [M.assoc, M.assoc, bind_app, bind_app]
    cases ma env S with
    | ok x S1 =>
      show ((truthM x >>= fun t => if t = true then mb env else pure x) >>= truthM) S1 = (truthM x >>= fun t => if t = true then mb env >>= truthM else pure false) S1
      rw [M.assoc, bind_app, bind_app]
      unfold truthM
      cases q : truth S1 x with
      | none => rfl
      | some c => cases c with
        | true => rfl
        | false =>
          show (match truth S1 x with | some b => Res.ok b S1 | none => .bad) = _
          rw [q]; rfl
    | exc x S1 => rfl
    | bad => rfl
  rw [e S] at p
  refine qa ρ σ H env S _ re rs (p.bind.imp fun c H1 ⟨d, ρ1, S1, e1, r1, s1, p1⟩ => ?_)
  subst r1
  cases d with
  | true => exact qb ρ1 σ H1 env S1 _ (re.ext e1) s1 p1
  | false => exact p1.ok rfl s1
theorem dw_or {a b : Expr} {r : List Expr} {ma mb : Env → M Val} {pos : Pos} (ha : DT w W X a (fun env => ma env >>= truthM)) (hb : DW w W X (.BoolOp .Or (b :: r) pos) (fun env => mb env >>= truthM)) :
    DW w W X (.BoolOp .Or (a :: b :: r) pos) (fun env => (do let x ← ma env; let t ← truthM x; if t then pure x else mb env) >>= truthM) := by
  obtain ⟨ta, pa, qa⟩ := ha.ex
  obtain ⟨tb, pb, qb⟩ := hb.ex
  refine ⟨_, pw_or pa pb, fun ρ σ H env S Q re rs p => ?_⟩
  have e : ∀ S, ((do let x ← ma env; let t ← truthM x; if t then pure x else mb env) >>= truthM : M Bool) S = ((ma env >>= truthM) >>= fun t => if t = true then pure true else mb env >>= truthM) S := fun S => by
    rw [M.assoc, M.assoc, bind_app, bind_app]
    cases ma env S with
    | ok x S1 =>
      show ((truthM x >>= fun t => if t = true then pure x else mb env) >>= truthM) S1 = (truthM x >>= fun t => if t = true then pure true else mb env >>= truthM) S1
      rw [M.assoc, bind_app, bind_app]
      unfold truthM
      cases q : truth S1 x with
      | none => rfl
      | some c => cases c with
        | true =>
          show (match truth S1 x with | some b => Res.ok b S1 | none => .bad) = _
          rw [q]; rfl
        | false => rfl
    | exc x S1 => rfl
    | bad => rfl
  rw [e S] at p
  refine qa ρ σ H env S _ re rs (p.bind.imp fun c H1 ⟨d, ρ1, S1, e1, r1, s1, p1⟩ => ?_)
  subst r1
  cases d with
  | true => exact p1.ok rfl s1
  | false => exact qb ρ1 σ H1 env S1 _ (re.ext e1) s1 p1

/-! ### a if t else b -/
theorem de_ife {c a b : Expr} {mc ma mb : Env → M Val} {pos : Pos} (hc : DT w W X c (fun env => mc env >>= truthM)) (ha : DE w W X a ma) (hb : DE w W X b mb) :
    DE w W X (.IfExp c a b pos) (fun env => do let x ← mc env; let t ← truthM x; if t then ma env else mb env) := by
  obtain ⟨tc, pc, qc⟩ := hc.ex
  obtain ⟨ta, pa, qa⟩ := ha.ex
  obtain ⟨tb, pb, qb⟩ := hb.ex
  refine ⟨_, pe_ifExp pc pa pb, fun ρ σ H env S Q re rs p => ?_⟩
  rw [← M.assoc] at p
  refine qc ρ σ H env S _ re rs (p.bind.imp fun x H1 ⟨u, ρ1, S1, e1, r1, s1, p1⟩ => ?_)
  subst r1
  cases u with
  | true => exact qa ρ1 σ H1 env S1 _ (re.ext e1) s1 p1
  | false => exact qb ρ1 σ H1 env S1 _ (re.ext e1) s1 p1
/-- .. as a test -/
def tIfT (c a b : TT) : TT := fun σ H Q => c σ H fun d H1 => if d = true then a σ H1 Q else b σ H1 Q
theorem pt_ifExp {c a b : Expr} {tc ta tb : TT} {pos : Pos} (hc : PT X c tc) (ha : PT X a ta) (hb : PT X b tb) : PT X (.IfExp c a b pos) (tIfT tc ta tb) := by
  refine ⟨fun pins s σ H Q I h => ?_⟩
  show wpAny _ _ (do if ← isTrue c X.env (eval c X.env) then isTrue a X.env (eval a X.env) else isTrue b X.env (eval b X.env)) _ _ s
  refine wpAny_bind (thn (hc.run pins s σ H _ I h) fun d s1 ⟨H1, I1, q1⟩ => ?_)
  cases d with
  | true => exact ha.run pins s1 σ H1 Q I1 q1
  | false => exact hb.run pins s1 σ H1 Q I1 q1
theorem dt_ife {c a b : Expr} {mc ma mb : Env → M Val} {pos : Pos} (hc : DT w W X c (fun env => mc env >>= truthM)) (ha : DT w W X a (fun env => ma env >>= truthM)) (hb : DT w W X b (fun env => mb env >>= truthM)) :
    DT w W X (.IfExp c a b pos) (fun env => (do let x ← mc env; let t ← truthM x; if t then ma env else mb env) >>= truthM) := by
  obtain ⟨tc, pc, qc⟩ := hc.ex
  obtain ⟨ta, pa, qa⟩ := ha.ex
  obtain ⟨tb, pb, qb⟩ := hb.ex
  refine ⟨_, pt_ifExp pc pa pb, fun ρ σ H env S Q re rs p => ?_⟩
  have e : ((do let x ← mc env; let t ← truthM x; if t then ma env else mb env) >>= truthM : M Bool) = ((mc env >>= truthM) >>= fun t => if t = true then ma env >>= truthM else mb env >>= truthM) := by
    rw [M.assoc, M.assoc]
    congr 1
    funext x
    rw [M.assoc]
    congr 1
    funext t
    cases t <;> rfl
  rw [e] at p
  refine qc ρ σ H env S _ re rs (p.bind.imp fun x H1 ⟨u, ρ1, S1, e1, r1, s1, p1⟩ => ?_)
  subst r1
  cases u with
  | true => exact qa ρ1 σ H1 env S1 _ (re.ext e1) s1 p1
  | false => exact qb ρ1 σ H1 env S1 _ (re.ext e1) s1 p1

/-! ### argument lists, displays -/
theorem star_cons {e : Expr} {es : List Expr} {env : PySem.Env} (h : ∀ x p, e ≠ .Starred x p) : starEach (e :: es) env = (false, eval e env) :: starEach es env := by
  cases e <;> first | rfl | exact absurd rfl (h _ _)
theorem da_nil : DA w W X [] (fun _ => pure []) := ⟨_, pa_nil, fun ρ σ H env S Q re rs p => p.ok (by simp [RepVs]) rs⟩
theorem da_cons {e : Expr} {es : List Expr} {m : Env → M Val} {ms : Env → M (List Val)} (h : ∀ x p, e ≠ .Starred x p) (ha : DE w W X e m) (hs : DA w W X es ms) :
    DA w W X (e :: es) (fun env => do let x ← m env; let xs ← ms env; pure (x :: xs)) := by
  obtain ⟨ta, pa, qa⟩ := ha.ex
  obtain ⟨tb, pb, qb⟩ := hs.ex
  refine ⟨_, pa_cons pa pb (star_cons h), fun ρ σ H env S Q re rs p => ?_⟩
  refine qa ρ σ H env S _ re rs (p.bind.imp fun x H1 ⟨u, ρ1, S1, e1, r1, s1, p1⟩ => ?_)
  refine qb ρ1 σ H1 env S1 _ (re.ext e1) s1 (p1.bind.imp fun y H2 ⟨v, ρ2, S2, e2, r2, s2, p2⟩ => ?_)
  exact p2.ok (by simp only [RepVs]; exact ⟨_, _, rfl, r1.ext e2, r2⟩) s2
theorem need_app (b : Bool) (S : Store) : need b S = if b then .ok () S else .bad := rfl
/-- a tuple of new: a tree -/
theorem rep_newtup {ρ : List Addr} {H : Hp} {S : Store} {p : Addr} {xs : List Val} {vs : List V} (rs : RepS w ρ H S) (h : H p = none) (r : RepVs w ρ H xs vs) : RepV w ρ (upd H p (.tup vs)) (.tup xs) (.ref p) := by
  simp only [RepV]
  exact ⟨p, vs, rfl, .inl ⟨rs.none_out h, .inl upd_same⟩, r.ext (Ext.new rs h)⟩
theorem de_tup {es : List Expr} {ms : Env → M (List Val)} {j : Nat} {pos : Pos} (hs : DA w W X es ms) : DE w W X (.Tuple es j pos) (fun env => do let xs ← ms env; need (decide (xs.length ≤ sizeMax)); pure (.tup xs)) := by
  obtain ⟨t, pt, q⟩ := hs.ex
  refine ⟨_, pe_tup pt, fun ρ σ H env S Q re rs p => ?_⟩
  refine q ρ σ H env S _ re rs (p.bind.imp fun vs H1 ⟨xs, ρ1, S1, e1, r1, s1, p1⟩ => ?_)
  rw [bind_app, need_app] at p1
  split at p1
  · rename_i hh
    split at hh
    · rename_i hz
      cases hh
      refine ⟨by rw [r1.length, ← size_eq]; exact of_decide_eq_true hz, fun p hp => ?_⟩
      exact p1 _ _ _ (Ext.new s1 hp) (rep_newtup s1 hp r1) (s1.new hp)
    · cases hh
  · rename_i hh
    split at hh <;> cases hh
  · exact p1.elim
/-- a list of new: the store's -/
theorem Post.alloc_lst {σ : L2.St} {ρ : List Addr} {H : Hp} {S : Store} {xs : List Val} {vs : List V} {Q : VK} (p : Post w W σ (RepV w) ρ H (alloc (.lst xs) S) Q) (rs : RepS w ρ H S) (r : RepVs w ρ H xs vs) :
    ∀ q, H q = none → Q (.ref q) (upd H q (.lst vs)) := fun q hq => by
  refine p _ _ _ (Ext.push rs hq) ?_ (rs.push hq ⟨vs, rfl, r.ext (Ext.push rs hq)⟩)
  simp only [RepV]
  exact ⟨q, rfl, by rw [← rs.len]; simp⟩
theorem de_lst {es : List Expr} {ms : Env → M (List Val)} {pos : Pos} (hs : DA w W X es ms) : DE w W X (.List es pos) (fun env => do let xs ← ms env; need (decide (xs.length ≤ sizeMax)); alloc (.lst xs)) := by
  obtain ⟨t, pt, q⟩ := hs.ex
  refine ⟨_, pe_lst pt, fun ρ σ H env S Q re rs p => ?_⟩
  refine q ρ σ H env S _ re rs (p.bind.imp fun vs H1 ⟨xs, ρ1, S1, e1, r1, s1, p1⟩ => ?_)
  rw [bind_app, need_app] at p1
  split at p1
  · rename_i hh
    split at hh
    · rename_i hz
      cases hh
      exact ⟨by rw [r1.length, ← size_eq]; exact of_decide_eq_true hz, p1.alloc_lst s1 r1⟩
    · cases hh
  · rename_i hh
    split at hh <;> cases hh
  · exact p1.elim
end
end Pd

/-! Pd, part 6: operators, comparisons, subscripts. -/
namespace Pd
open PySem PySem.Spec L2

section
variable {X : Cx}
theorem op_fdivA : OpR X (binaryOp .FloorDiv) (rI (fun _ j => j ≠ 0 ∧ j.natAbs.log2 < 9000) fun i j => .int (i.fdiv j)) := opI fun _ _ _ _ _ _ _ hc q => PyProof.Rows.floordiv_int hc.1 q (.inl (PyProof.noPylong_of_log2 hc.2))
theorem op_mulA : OpR X (binaryOp .Mult) (rI IntMulOk fun i j => .int (i * j)) := opI fun _ _ _ _ _ _ _ hc q => PyProof.Rows.mul_int q hc
theorem op_shlA : OpR X (binaryOp .LShift) (rI CPow fun i j => .int (i * 2 ^ j.toNat)) := op_shl
end
theorem mul_ok {a b : Int} (h : mulFits a b = true) : IntMulOk a b := by
  unfold mulFits intSmall at h
  simp only [Bool.or_eq_true, Bool.and_eq_true, decide_eq_true_eq] at h
  rcases h with (h | h) | h
  · exact (show CMul a b from .inl h).ok
  · exact (show CMul a b from .inr h).ok
  · exact CMulW.ok h
theorem pow_ok {a b : Int} (h : powFits a b = true) : CPow a b := by
  unfold powFits at h
  simp only [Bool.and_eq_true, decide_eq_true_eq] at h
  exact ⟨h.1.1, h.1.2, h.2⟩

section
variable {w : Wd} {W : WX} {σ : L2.St} {ρ : List Addr} {H : Hp} {S : Store}
theorem rep_int {v : Val} {i : Int} {x : V} (h : v = .int i) (r : RepV w ρ H v x) : x = .int i := by subst h; simpa only [RepV] using r
theorem rep_flat {xs : List Val} {vs : List V} (r : RepVs w ρ H xs vs) : ∀ n, RepVs w ρ H (List.replicate n xs).flatten (List.replicate n vs).flatten
  | 0 => by simp [RepVs]
  | n + 1 => by
    rw [List.replicate_succ, List.replicate_succ, List.flatten_cons, List.flatten_cons]
    exact r.append (rep_flat r n)
/-- the rules of a binary operator, all together -/
def rBin (K : PySem.W.Frag) : Bop → R2
  | .add => fun x y H Q => rI0 (fun i j => .int (i + j)) x y H Q ∨ (∃ i j, x = .str i ∧ y = .str j ∧ i.length + j.length ≤ sizeLine ∧ Q (.str (i ++ j)) H) ∨ rCatA K x y H Q ∨ rCat x y H Q
  | .sub => fun x y H Q => rI0 (fun i j => .int (i - j)) x y H Q ∨ ∃ i k, x = .int i ∧ y = .bl k ∧ Q (.int (i - PyProof.Rows.b2i k)) H
  | .mul => fun x y H Q => rI IntMulOk (fun i j => .int (i * j)) x y H Q ∨ rRep x y H Q
  | .fdiv => rI (fun _ j => j ≠ 0 ∧ j.natAbs.log2 < 9000) fun i j => .int (i.fdiv j)
  | .mod => rI (fun _ j => j ≠ 0) fun i j => .int (i.fmod j)
  | .pow => rI CPow fun i j => .int (i ^ j.toNat)
  | .shl => rI CPow fun i j => .int (i * 2 ^ j.toNat)
theorem op_sub_ib {X : Cx} : OpR X (binaryOp .Sub) (fun x y H Q => ∃ i k, x = .int i ∧ y = .bl k ∧ Q (.int (i - PyProof.Rows.b2i k)) H) := by
  intro pins s σ H x y v u Q I rx ry h
  obtain ⟨i, k, rfl, rfl, q⟩ := h
  obtain ⟨t, rfl⟩ := rx
  cases ry
  exact PySem.IntBool.sub_int_bool ⟨.int (i - PyProof.Rows.b2i k), H, I.tok _, ⟨_, rfl⟩, q⟩
theorem op_bin {X : Cx} {op : Bop} {o : Operator} (h : opB op o = true) : OpR X (binaryOp o) (rBin X.K op) := by
  cases op <;> cases o <;> first | cases h | skip
  · exact op_add.or (op_add_str.or (op_catA.or op_cat))
  · exact op_sub.or op_sub_ib
  · exact op_mulA.or op_rep
  · exact op_fdivA
  · exact op_modN
  · exact op_pow
  · exact op_shlA
theorem bin_ok {op : Bop} {x y : V} {u v : Val} {Q : VK} (ru : RepV w ρ H u x) (rv : RepV w ρ H v y) (rs : RepS w ρ H S) (p : Post w W σ (RepV w) ρ H (binV op u v S) Q) : rBin w.K op x y H Q := by
  cases op with
  | add =>
    change Post w W σ (RepV w) ρ H (addV u v S) Q at p
    unfold addV at p
    split at p
    · simp only [RepV] at ru rv
      exact .inl ⟨_, _, ru, rv, p.ok (by simp [RepV]) rs⟩
    · simp only [RepV] at ru rv
      split at p
      · rename_i hz
        exact .inr (.inl ⟨_, _, ru, rv, by rw [← size_eq]; exact hz, p.ok (by simp [RepV]) rs⟩)
      · exact p.elim
    · rename_i xs ys
      simp only [RepV] at ru rv
      obtain ⟨a, vs, rfl, a1, a2⟩ := ru
      obtain ⟨b, us, rfl, b1, b2⟩ := rv
      split at p
      · rename_i hz
        refine .inr (.inr (.inl ⟨a, b, vs, us, rfl, rfl, a1.sq, b1.sq, by rw [a2.length, b2.length, ← size_eq]; exact hz, fun e => ?_, fun e e' => ?_, fun e e' q hq => ?_⟩))
        · subst e
          have : xs = [] := List.length_eq_zero_iff.mp a2.length.symm
          subst this
          exact p.ok (by simp only [RepV, List.nil_append]; exact ⟨b, us, rfl, b1, b2⟩) rs
        · subst e'
          have : ys = [] := List.length_eq_zero_iff.mp b2.length.symm
          subst this
          exact p.ok (by simp only [RepV, List.append_nil]; exact ⟨a, vs, rfl, a1, a2⟩) rs
        · exact p _ _ _ (Ext.new rs hq) (rep_newtup rs hq (a2.append b2)) (rs.new hq)
      · exact p.elim
    · rename_i i j
      simp only [RepV] at ru rv
      obtain ⟨a, rfl, a1⟩ := ru
      obtain ⟨b, rfl, b1⟩ := rv
      unfold catL at p
      split at p
      · rename_i xs ys e1 e2
        obtain ⟨vs, h1, h2⟩ := lst_at rs a1 e1
        obtain ⟨us, h3, h4⟩ := lst_at rs b1 e2
        split at p
        · rename_i hz
          exact .inr (.inr (.inr ⟨a, b, vs, us, rfl, rfl, h1, h3, by rw [h2.length, h4.length, ← size_eq]; exact hz, p.alloc_lst rs (h2.append h4)⟩))
        · exact p.elim
      · exact p.elim
    · exact p.elim
  | sub =>
    change Post w W σ (RepV w) ρ H (subV u v S) Q at p
    unfold subV at p
    split at p
    · simp only [RepV] at ru rv
      exact .inl ⟨_, _, ru, rv, p.ok (by simp [RepV]) rs⟩
    · simp only [RepV] at ru rv
      exact .inr ⟨_, _, ru, rv, p.ok (by simp [RepV]) rs⟩
    · exact p.elim
  | mul =>
    change Post w W σ (RepV w) ρ H (mulV u v S) Q at p
    unfold mulV at p
    split at p
    · simp only [RepV] at ru rv
      split at p
      · rename_i hz
        exact .inl ⟨_, _, ru, rv, mul_ok hz, p.ok (by simp [RepV]) rs⟩
      · exact p.elim
    · rename_i l k
      simp only [RepV] at ru rv
      obtain ⟨a, rfl, a1⟩ := ru
      subst rv
      unfold repL at p
      split at p
      · rename_i xs e1
        obtain ⟨vs, h1, h2⟩ := lst_at rs a1 e1
        split at p
        · rename_i hz
          simp only [Bool.and_eq_true, decide_eq_true_eq] at hz
          exact .inr ⟨a, k, vs, rfl, rfl, h1, hz.1.1, hz.1.2, by rw [h2.length, ← size_eq]; exact hz.2, p.alloc_lst rs (rep_flat h2 _)⟩
        · exact p.elim
      · exact p.elim
    · exact p.elim
  | fdiv =>
    change Post w W σ (RepV w) ρ H (fdivV u v S) Q at p
    unfold fdivV at p
    split at p
    · simp only [RepV] at ru rv
      split at p
      · rename_i hz
        unfold divFits at hz
        simp only [Bool.and_eq_true, decide_eq_true_eq] at hz
        exact ⟨_, _, ru, rv, hz, p.ok (by simp [RepV]) rs⟩
      · exact p.elim
    · exact p.elim
  | mod =>
    change Post w W σ (RepV w) ρ H (modV u v S) Q at p
    unfold modV at p
    split at p
    · simp only [RepV] at ru rv
      split at p
      · rename_i hz
        exact ⟨_, _, ru, rv, hz, p.ok (by simp [RepV]) rs⟩
      · exact p.elim
    · exact p.elim
  | pow =>
    change Post w W σ (RepV w) ρ H (powV u v S) Q at p
    unfold powV at p
    split at p
    · simp only [RepV] at ru rv
      split at p
      · rename_i hz
        exact ⟨_, _, ru, rv, pow_ok hz, p.ok (by simp [RepV]) rs⟩
      · exact p.elim
    · exact p.elim
  | shl =>
    change Post w W σ (RepV w) ρ H (shlV u v S) Q at p
    unfold shlV at p
    split at p
    · simp only [RepV] at ru rv
      split at p
      · rename_i hz
        exact ⟨_, _, ru, rv, pow_ok hz, p.ok (by simp [RepV]) rs⟩
      · exact p.elim
    · exact p.elim

/-! ### equality of data -/
theorem dpAll_of {S : Store} (n : Nat) (ih : ∀ (v : Val) (x : V) (d : PyData), RepV w ρ H v x → dat S n v = some d → Dp w.K H x d) :
    ∀ (xs : List Val) (vs : List V) (ds : List PyData), RepVs w ρ H xs vs → optMap (dat S n) xs = some ds → DpAll w.K H vs ds
  | [], vs, ds, r, h => by
    simp only [RepVs] at r
    subst r
    have e := Option.some.inj h
    subst e
    exact .nil
  | x :: xs, vs, ds, r, h => by
    simp only [RepVs] at r
    obtain ⟨v, us, rfl, r1, r2⟩ := r
    unfold optMap at h
    split at h
    · rename_i d ds' e1 e2
      have e := Option.some.inj h
      subst e
      exact .cons (ih x v d r1 e1) (dpAll_of n ih xs us ds' r2 e2)
    · cases h
theorem dp_of (rs : RepS w ρ H S) : ∀ (n : Nat) (v : Val) (x : V) (d : PyData), RepV w ρ H v x → dat S n v = some d → Dp w.K H x d
  | n, .non, x, d, r, h => by
    simp only [RepV] at r; subst r
    cases n <;> (have e := Option.some.inj h; subst e; exact .non)
  | n, .bl b, x, d, r, h => by
    simp only [RepV] at r; subst r
    cases n <;> (have e := Option.some.inj h; subst e; exact .bl b)
  | n, .int b, x, d, r, h => by
    simp only [RepV] at r; subst r
    cases n <;> (have e := Option.some.inj h; subst e; exact .int b)
  | n, .str b, x, d, r, h => by
    simp only [RepV] at r; subst r
    cases n <;> (have e := Option.some.inj h; subst e; exact .str b)
  | 0, .tup xs, x, d, r, h => nomatch h
  | n + 1, .tup xs, x, d, r, h => by
    simp only [RepV] at r
    obtain ⟨a, vs, rfl, r1, r2⟩ := r
    have h' : (optMap (dat S n) xs).map PyData.tuple = some d := h
    cases q : optMap (dat S n) xs with
    | none => rw [q] at h'; cases h'
    | some ds =>
      rw [q] at h'
      have e := Option.some.inj h'
      subst e
      exact .tup r1.sq (dpAll_of n (dp_of rs n) xs vs ds r2 q)
  | n, .ins c fs, x, d, r, h => by cases n <;> cases h
  | n, .scr ns, x, d, r, h => by cases n <;> cases h
  | 0, .ref i, x, d, r, h => nomatch h
  | n + 1, .ref i, x, d, r, h => by
    simp only [RepV] at r
    obtain ⟨a, rfl, r1⟩ := r
    have h' : (match S[i]? with | some (.lst xs) => (optMap (dat S n) xs).map PyData.list | _ => none) = some d := h
    split at h'
    · rename_i xs e1
      obtain ⟨vs, h1, h2⟩ := lst_at rs r1 e1
      cases q : optMap (dat S n) xs with
      | none => rw [q] at h'; cases h'
      | some ds =>
        rw [q] at h'
        have e := Option.some.inj h'
        subst e
        exact .lst (SqL.of h1) (dpAll_of n (dp_of rs n) xs vs ds h2 q)
    · cases h'

def rEqA (K : PySem.W.Frag) : R2 := fun x y H Q => rEq x y H Q ∨ rEqD K x y H Q
def rNeA (K : PySem.W.Frag) : R2 := fun x y H Q => rNe x y H Q ∨ rNeD K x y H Q
theorem eq_ok {x y : V} {u v : Val} {c : Bool} (ru : RepV w ρ H u x) (rv : RepV w ρ H v y) (rs : RepS w ρ H S) (h : eqV S u v = some c) :
    (scal x y = true ∧ decide (x = y) = c) ∨ ∃ d e, Dp w.K H x d ∧ Dp w.K H y e ∧ SeqAt.shaped d = true ∧ SeqAt.shaped e = true ∧ PyData.eqv d e = c := by
  unfold eqV at h
  split at h
  · simp only [RepV] at ru rv; subst ru rv
    have e := Option.some.inj h
    refine .inl ⟨rfl, ?_⟩
    rw [← e]
    simp
  · simp only [RepV] at ru rv; subst ru rv
    have e := Option.some.inj h
    refine .inl ⟨rfl, ?_⟩
    rw [← e]
    simp
  · simp only [RepV] at ru rv; subst ru rv
    have e := Option.some.inj h
    refine .inl ⟨rfl, ?_⟩
    rw [← e]
    simp
  · simp only [RepV] at ru rv; subst ru rv
    have e := Option.some.inj h
    refine .inl ⟨rfl, ?_⟩
    rw [← e]
    simp
  · split at h
    · rename_i d e e1 e2
      split at h
      · rename_i hz
        simp only [Bool.and_eq_true] at hz
        exact .inr ⟨d, e, dp_of rs _ _ _ _ ru e1, dp_of rs _ _ _ _ rv e2, hz.1, hz.2, Option.some.inj h⟩
      · cases h
    · cases h

theorem seq_read (rs : RepS w ρ H S) {v : Val} {x : V} {l : List Val} (r : RepV w ρ H v x) (h : seqOf S v = some l) : ∃ a vs, x = .ref a ∧ (SqL w.K H a vs ∨ SqT w.K H a vs) ∧ RepVs w ρ H l vs := by
  unfold seqOf at h
  split at h
  · rename_i xs
    simp only [RepV] at r
    obtain ⟨a, vs, rfl, a1, a2⟩ := r
    have e := Option.some.inj h
    subst e
    exact ⟨a, vs, rfl, .inr a1.sq, a2⟩
  · rename_i ns
    simp only [RepV] at r
    obtain ⟨a, rfl, a1⟩ := r
    have e := Option.some.inj h
    subst e
    exact ⟨a, _, rfl, .inl a1.sq, RepVs.ints ns⟩
  · simp only [RepV] at r
    obtain ⟨a, rfl, a1⟩ := r
    split at h
    · rename_i xs e
      have e' := Option.some.inj h
      subst e'
      obtain ⟨vs, h1, h2⟩ := lst_at rs a1 e
      exact ⟨a, vs, rfl, .inl (SqL.of h1), h2⟩
    · cases h
  · cases h
theorem key_kV {v : Val} {q : DKey} {y : V} (h : keyOf v = some q) (r : RepV w ρ H v y) : y = kV q := by
  unfold keyOf at h
  split at h
  · have e := Option.some.inj h
    subst e
    simp only [RepV] at r
    exact r
  · have e := Option.some.inj h
    subst e
    simp only [RepV] at r
    exact r
  · cases h
theorem valV_rep {κ : Type} [DecidableEq κ] {w : Wd} {ρ : List Addr} {H : Hp} : ∀ {kvs : List (κ × Val)} {vs : List (κ × V)} {k : κ} {v : Val}, RepKV w ρ H kvs vs → lookV kvs k = some v → ∃ x, valV vs k = some x ∧ RepV w ρ H v x
  | [], _, _, _, _, h => nomatch h
  | (k', u) :: r, _, k, v, h, e => by
    simp only [RepKV] at h
    obtain ⟨x, vr, rfl, h1, h2⟩ := h
    unfold lookV at e
    show ∃ y, valV ((k', x) :: vr) k = some y ∧ _
    unfold valV
    by_cases hk : k' = k
    · rw [if_pos hk] at e
      have e' := Option.some.inj e
      subst e'
      exact ⟨x, by simp [hk], h1⟩
    · rw [if_neg hk] at e
      obtain ⟨y, q1, q2⟩ := valV_rep h2 e
      unfold valV at q1
      exact ⟨y, by simpa [hk] using q1, q2⟩

theorem valV_none {κ : Type} [DecidableEq κ] {w : Wd} {ρ : List Addr} {H : Hp} : ∀ {kvs : List (κ × Val)} {vs : List (κ × V)} {k : κ}, RepKV w ρ H kvs vs → lookV kvs k = none → valV vs k = none
  | [], _, _, h, _ => by simp only [RepKV] at h; subst h; rfl
  | (k', u) :: r, _, k, h, e => by
    simp only [RepKV] at h
    obtain ⟨x, vr, rfl, h1, h2⟩ := h
    unfold lookV at e
    by_cases hk : k' = k
    · rw [if_pos hk] at e; cases e
    · rw [if_neg hk] at e
      rw [valV_neg hk]
      exact valV_none h2 e
/-- a dict asked for a key -/
theorem look_rep {kvs : List (DKey × Val)} {vs : List (DKey × V)} {q : DKey} (h : RepKV w ρ H kvs vs) : (lookV kvs q).isSome = (valV vs q).isSome ∧ ∀ {d : Val} {x : V}, RepV w ρ H d x → RepV w ρ H ((lookV kvs q).getD d) ((valV vs q).getD x) := by
  cases e : lookV kvs q with
  | none =>
    rw [valV_none h e]
    exact ⟨rfl, fun r => r⟩
  | some v =>
    obtain ⟨y, e1, e2⟩ := valV_rep h e
    rw [e1]
    exact ⟨rfl, fun _ => e2⟩
theorem flat_rep {x : Val} {v : V} (h : flatV x = true) (r : RepV w ρ H x v) : L2.flatV v = true := by
  cases x <;> simp [flatV] at h <;> simp only [RepV] at r <;> subst r <;> rfl
theorem flats_rep : ∀ {xs : List Val} {vs : List V}, xs.all flatV = true → RepVs w ρ H xs vs → vs.all L2.flatV = true
  | [], _, _, r => by simp only [RepVs] at r; subst r; rfl
  | x :: xs, _, h, r => by
    simp only [RepVs] at r
    obtain ⟨v, l, rfl, r1, r2⟩ := r
    simp only [List.all_cons, Bool.and_eq_true] at h ⊢
    exact ⟨flat_rep h.1 r1, flats_rep h.2 r2⟩
theorem flatEq_rep {x y : Val} {u v : V} (h1 : flatV x = true) (h2 : flatV y = true) (r1 : RepV w ρ H x u) (r2 : RepV w ρ H y v) : flatEq x y = L2.eqV u v := by
  cases x <;> simp [flatV] at h1 <;> cases y <;> simp [flatV] at h2 <;> simp only [RepV] at r1 r2 <;> subst r1 <;> subst r2 <;> rfl
theorem in_rep {x : Val} {u : V} (h : flatV x = true) (r : RepV w ρ H x u) : ∀ {xs : List Val} {vs : List V}, xs.all flatV = true → RepVs w ρ H xs vs → (xs.any fun z => flatEq z x) = L2.inV u vs
  | [], _, _, r => by simp only [RepVs] at r; subst r; rfl
  | y :: xs, _, h', r' => by
    simp only [RepVs] at r'
    obtain ⟨v, l, rfl, r1, r2⟩ := r'
    simp only [List.all_cons, Bool.and_eq_true] at h'
    have e := in_rep h r h'.2 r2
    unfold L2.inV at e ⊢
    simp only [List.any_cons, e, flatEq_rep h'.1 h r1 r]
def rInDc (neg : Bool) : R2 := fun x y H Q => ∃ a o, y = .ref a ∧ DGet H a x o ∧ Q (.bl (if neg then !o.isSome else o.isSome)) H
def rInSg (neg : Bool) : R2 := fun x y H Q => ∃ (c : Nat) (z : Str), x = .str ⟨#[c]⟩ ∧ y = .str z ∧ Q (.bl (if neg then !decide (c ∈ z.cps.toList) else decide (c ∈ z.cps.toList))) H
def rInA (K : PySem.W.Frag) (neg : Bool) : R2 := fun x y H Q => rIn K neg x y H Q ∨ rInDc neg x y H Q ∨ rInSg neg x y H Q
theorem op_inA {X : Cx} (hu : X.A.units + 1 < cLine) : OpR X (compareOp .In) (rInA X.K false) := by
  intro pins s σ H x y v u Q I rx ry h
  rcases h with h | ⟨a, o, rfl, g, q⟩ | h
  · exact op_in_seq pins s σ H x y v u Q I rx ry h
  · cases ry
    exact d_in hu I g rx fun s' I' => ⟨.bl o.isSome, H, I', rfl, q⟩
  · exact op_in_sign pins s σ H x y v u Q I rx ry h
theorem op_notInA {X : Cx} (hu : X.A.units + 1 < cLine) : OpR X (compareOp .NotIn) (rInA X.K true) := by
  intro pins s σ H x y v u Q I rx ry h
  rcases h with h | ⟨a, o, rfl, g, q⟩ | h
  · exact op_notIn_seq pins s σ H x y v u Q I rx ry h
  · cases ry
    exact d_notIn hu I g rx fun s' I' => ⟨.bl (!o.isSome), H, I', rfl, q⟩
  · exact op_notIn_sign pins s σ H x y v u Q I rx ry h
theorem in_ok {neg : Bool} {x y : V} {u v : Val} {Q : VK} {c : Bool} (ru : RepV w ρ H u x) (rv : RepV w ρ H v y) (rs : RepS w ρ H S) (h : inV S u v = some c) (q : Q (.bl (if neg then !c else c)) H) : rInA w.K neg x y H Q := by
  unfold inV at h
  split at h
  · rename_i l e
    split at h
    · rename_i hf
      simp only [Bool.and_eq_true] at hf
      obtain ⟨a, vs, rfl, h1, h2⟩ := seq_read rs rv e
      have e := Option.some.inj h
      rw [in_rep hf.1 ru hf.2 h2] at e
      exact .inl ⟨a, vs, rfl, h1, flat_rep hf.1 ru, flats_rep hf.2 h2, by rw [e]; exact q⟩
    · cases h
  · split at h
    · rename_i d
      simp only [RepV] at rv
      obtain ⟨a, rfl, ha⟩ := rv
      split at h
      · rename_i kvs e
        obtain ⟨vs, h1, h2⟩ := dct_at rs ha e
        split at h
        · rename_i k hk
          have ek := key_kV hk ru
          subst ek
          have e := Option.some.inj h
          refine .inr (.inl ⟨a, _, rfl, DGet.k h1, ?_⟩)
          rw [← (look_rep h2).1, e]
          exact q
        · cases h
      · cases h
    · rename_i z
      split at h
      · rename_i t
        split at h
        · rename_i hz
          simp only [RepV] at ru rv
          have e := Option.some.inj h
          have et : t = ⟨#[t.cps.getD 0 0]⟩ := by
            obtain ⟨cps⟩ := t
            obtain ⟨l⟩ := cps
            rcases l with _ | ⟨c, _ | ⟨_, _⟩⟩
            · simp at hz
            · rfl
            · simp at hz
          refine .inr (.inr ⟨t.cps.getD 0 0, _, by rw [← et]; exact ru, rv, ?_⟩)
          rw [e]
          exact q
        · cases h
      · cases h
    · cases h

def rCmp (K : PySem.W.Frag) : Cop → R2
  | .eq => rEqA K
  | .ne => rNeA K
  | .lt => fun x y H Q => rI0 (fun i j => .bl (decide (i < j))) x y H Q ∨ ∃ i j, x = .str i ∧ y = .str j ∧ Q (.bl (decide (i.cps.toList < j.cps.toList))) H
  | .le => fun x y H Q => rI0 (fun i j => .bl (decide (i ≤ j))) x y H Q ∨ ∃ i j, x = .str i ∧ y = .str j ∧ Q (.bl (!decide (j.cps.toList < i.cps.toList))) H
  | .gt => rI0 fun i j => .bl (decide (j < i))
  | .ge => rI0 fun i j => .bl (decide (j ≤ i))
  | .isN => fun x y H Q => y = .non ∧ Q (.bl (decide (x = .non))) H
  | .notN => fun x y H Q => y = .non ∧ Q (.bl (!decide (x = .non))) H
  | .isIn => rInA K false
  | .notIn => rInA K true
theorem op_cmp {X : Cx} {op : Cop} {o : CmpOp} (h : copB op o = true) (hu : X.A.units + 64 < cLine) : OpR X (compareOp o) (rCmp X.K op) := by
  cases op <;> cases o <;> first | cases h | skip
  · exact op_eq.or (op_eqD hu)
  · exact op_ne.or (op_neD hu)
  · exact op_lt.or op_lt_str
  · exact op_le.or op_le_str
  · exact op_gt
  · exact op_ge
  · exact op_isN
  · exact op_notN
  · exact op_inA (by omega)
  · exact op_notInA (by omega)
theorem rep_non {v : Val} {x : V} (r : RepV w ρ H v x) (h : x = .non) : v = .non := by
  subst h
  cases v <;> simp only [RepV] at r <;> first | rfl | (obtain ⟨_, _, e, _⟩ := r; cases e; done) | (obtain ⟨_, e, _⟩ := r; cases e; done) | (obtain ⟨_, _, _, _, _, e, _⟩ := r; cases e; done) | cases r
theorem cmp_ok {op : Cop} {x y : V} {u v : Val} {Q : VK} (ru : RepV w ρ H u x) (rv : RepV w ρ H v y) (rs : RepS w ρ H S) (p : Post w W σ (RepV w) ρ H (cmpV op u v S) Q) : rCmp w.K op x y H Q := by
  have key : ∀ {c : Bool}, Post w W σ (RepV w) ρ H (.ok (.bl c) S) Q → Q (.bl c) H := fun p => p.ok (by simp [RepV]) rs
  unfold cmpV at p
  split at p
  · split at p
    · rename_i c e
      rcases eq_ok ru rv rs e with ⟨h1, h2⟩ | ⟨d, e, h1, h2, h3, h4, h5⟩
      · exact .inl ⟨h1, by rw [h2]; exact key p⟩
      · exact .inr ⟨d, e, h1, h2, h3, h4, by rw [h5]; exact key p⟩
    · exact p.elim
  · split at p
    · rename_i c e
      rcases eq_ok ru rv rs e with ⟨h1, h2⟩ | ⟨d, e, h1, h2, h3, h4, h5⟩
      · exact .inl ⟨h1, by rw [h2]; exact key p⟩
      · exact .inr ⟨d, e, h1, h2, h3, h4, by rw [h5]; exact key p⟩
    · exact p.elim
  · split at p
    · simp only [RepV] at ru rv; exact .inl ⟨_, _, ru, rv, key p⟩
    · simp only [RepV] at ru rv; exact .inr ⟨_, _, ru, rv, key p⟩
    · exact p.elim
  · split at p
    · simp only [RepV] at ru rv; exact .inl ⟨_, _, ru, rv, key p⟩
    · simp only [RepV] at ru rv; exact .inr ⟨_, _, ru, rv, key p⟩
    · exact p.elim
  · split at p
    · simp only [RepV] at ru rv; exact ⟨_, _, ru, rv, key p⟩
    · exact p.elim
  · split at p
    · simp only [RepV] at ru rv; exact ⟨_, _, ru, rv, key p⟩
    · exact p.elim
  · split at p
    · simp only [RepV] at ru rv
      refine ⟨rv, ?_⟩
      rw [decide_eq_true ru]; exact key p
    · rename_i hn
      simp only [RepV] at rv
      refine ⟨rv, ?_⟩
      rw [decide_eq_false (fun e => hn (rep_non ru e))]; exact key p
    · exact p.elim
  · split at p
    · simp only [RepV] at ru rv
      refine ⟨rv, ?_⟩
      rw [decide_eq_true ru]; exact key p
    · rename_i hn
      simp only [RepV] at rv
      refine ⟨rv, ?_⟩
      rw [decide_eq_false (fun e => hn (rep_non ru e))]; exact key p
    · exact p.elim
  · split at p
    · rename_i c e
      exact in_ok ru rv rs e (key p)
    · exact p.elim
  · split at p
    · rename_i c e
      exact in_ok ru rv rs e (key p)
    · exact p.elim
theorem cmp_bool {op : Cop} {u v z : Val} {S' : Store} (h : cmpV op u v S = .ok z S') : ∃ c, z = .bl c := by
  unfold cmpV at h
  split at h <;> (try split at h) <;> first | (injection h with h1 h2; exact ⟨_, h1.symm⟩) | cases h
end
end Pd

/-! Pd: a list or tuple from behind. -/
namespace Pd
open PySem PySem.Spec L2

section
variable {prog : Program} {w : World} {A : Around} {E : Value → Shared → Prop} {s : Shared}
/-- the fields of [::-1], applied -/
theorem back_applied {sl : Addr} {vs : Value} {n : Nat} {Q : Int × Int × Nat → Shared → Prop} (hs : s.heap.IsSliceOf sl .none .none vs) (ps : IsPart vs (some (-1))) (h : Q ((n : Int) - 1, -1, n) s) :
    wpAny (model prog w) A (Builtin.Slice.sliceApplied (.ref sl) (pure (n : Int))) Q E s := by
  obtain ⟨o, ho, _, hd⟩ := id hs
  have hp : Builtin.Slice.slicePlaces ((n : Int) - 1) (-1) (-1) = n := by
    unfold Builtin.Slice.slicePlaces
    rw [if_neg (by decide)]
    by_cases c : (n : Int) - 1 > -1
    · rw [if_pos c]
      have e : -(-1 : Int) = 1 := by decide
      rw [e, Int.ediv_one]
      omega
    · rw [if_neg c]
      omega
  unfold Builtin.Slice.sliceApplied Builtin.Slice.sliceFields
  have r1 : wpAny (model prog w) A (Builtin.Slice.slicePartIndex vs) (fun c s' => c = some (-1) ∧ s' = s) E s := HT.slicePart_ ps ⟨rfl, rfl⟩
  have r2 : wpAny (model prog w) A (Builtin.Slice.slicePartIndex .none) (fun c s' => c = none ∧ s' = s) E s := HT.slicePart_ .none ⟨rfl, rfl⟩
  refine wpAny_bind (wpAny_bind (wpAny_field ho hd (x := .none) rfl ?_))
  refine wpAny_bind (wpAny_field ho hd (x := .none) rfl ?_)
  refine wpAny_bind (wpAny_field ho hd (x := vs) rfl (wpAny_pure ?_))
  refine wpAny_bind (thn r1 fun c s1 hc => ?_)
  obtain ⟨rfl, rfl⟩ := hc
  show wpAny _ _ (if ((-1 : Int) == 0) = true then _ else _) _ _ _
  rw [if_neg (by decide)]
  refine wpAny_bind (thn r2 fun c s1 hc => ?_)
  obtain ⟨rfl, rfl⟩ := hc
  refine wpAny_bind (thn r2 fun c s1 hc => ?_)
  obtain ⟨rfl, rfl⟩ := hc
  refine wpAny_bind (wpAny_pure ?_)
  show wpAny _ _ (pure ((n : Int) - 1, (-1 : Int), Builtin.Slice.slicePlaces ((n : Int) - 1) (-1) (-1))) _ _ _
  rw [hp]
  exact wpAny_pure h
theorem back_pick (xs : Array Value) : (List.range xs.size).filterMap (fun (k : Nat) => xs[(((xs.size : Int) - 1) + (k : Int) * -1).toNat]?) = xs.toList.reverse := by
  have e : (fun (k : Nat) => xs[(((xs.size : Int) - 1) + (k : Int) * -1).toNat]?) = fun (k : Nat) => xs[(((xs.size : Int) - 1) - (k : Int)).toNat]? := by
    funext k
    congr 2
    omega
  rw [e]
  apply List.ext_getElem?
  intro i
  have key : ∀ n, n ≤ xs.size → ((List.range n).filterMap (fun (k : Nat) => xs[(((xs.size : Int) - 1) - (k : Int)).toNat]?)) = (List.range n).map fun k => xs.toList.reverse.getD k .none := by
    intro n
    induction n with
    | zero => intro _; rfl
    | succ n ih =>
      intro hn
      rw [List.range_succ, List.filterMap_append, List.map_append, ih (by omega)]
      congr 1
      have h1 : (((xs.size : Int) - 1) - (n : Int)).toNat = xs.size - 1 - n := by omega
      have h2 : xs[xs.size - 1 - n]? = some (xs.toList.reverse.getD n .none) := by
        rw [List.getD_eq_getElem?_getD, List.getElem?_reverse (by rw [Array.length_toList]; omega), Array.length_toList, Array.getElem?_toList, Array.getElem?_eq_getElem (by omega)]
        rfl
      simp only [List.filterMap_cons, h1, h2, List.filterMap_nil, List.map_cons, List.map_nil]
  rw [key xs.size (Nat.le_refl _)]
  congr 1
  apply List.ext_getElem
  · simp
  · intro j h1 h2
    simp [List.getD_eq_getElem?_getD, List.getElem?_eq_getElem h2]
theorem getItem_back {t sl : Addr} {items : Array Value} {vs : Value} {Q : Value → Shared → Prop} (ht : PyProof.Rows.IsTup s.heap t items) (hs : s.heap.IsSliceOf sl .none .none vs) (ps : IsPart vs (some (-1)))
    (h : Q (.ref s.heap.objs.size) { s with heap := s.heap.push { cls := .type "tuple", data := .seq items.toList.reverse.toArray } }) (hz : items.size ≤ sizeLine) : wpAny (model prog w) A (getItem (.ref t) (.ref sl)) Q E s := by
  obtain ⟨os, hos, hcs, _⟩ := id hs
  have hT : s.TypeIs (.ref sl) "slice" := ⟨os, hos, hcs⟩
  have hfit : sizeOk (.seq items.toList.reverse.toArray) := by
    show items.toList.reverse.toArray.size ≤ sizeLine
    simpa using hz
  unfold getItem
  try with_reducible refine wpAny_holding ?_
  first | refine wpAny_bind (wpAny_pure ?_) | skip
  refine wpAny_bind (wpAny_sequenceKey ht.typeIs (by decide) ?_)
  refine wpAny_bind (wpAny_callSpecial?_slot (name := Str.ofString "__getitem__") ht.typeIs PyProof.Rows.slot_tuple_getitem (wpAny_call_entry PyProof.Rows.slot_tuple_getitem ht.typeIs PyProof.Rows.entry_tuple_getitem ?_ (PyProof.Rows.args_tuple_getitem _ _)))
  show wpAny _ _ (Builtin.Tuple.tupleItemsOf (.ref t) >>= _) _ _ s
  refine wpAny_bind (PyProof.Rows.tupleItemsOf_ ht ?_)
  refine wpAny_bind (wpAny_typeOf hT ?_)
  rw [if_pos (by decide)]
  refine wpAny_bind (back_applied hs ps ?_)
  show wpAny _ _ (if (((items.size : Int) - 1) == 0 && (-1 : Int) == 1 && items.size == items.size) = true then _ else _) _ _ s
  have hno : ¬ ((((items.size : Int) - 1) == 0 && (-1 : Int) == 1 && items.size == items.size) = true) := by
    rw [show ((-1 : Int) == 1) = false by decide, Bool.and_false, Bool.false_and]
    exact Bool.false_ne_true
  rw [if_neg hno, back_pick]
  first
    | exact wpAny_bind (m := Builtin.Tuple.tupleExact _) (wpAny_newObj_type (wpAny_pure ⟨_, rfl, wpAny_pure h⟩) hfit)
    | exact wpAny_bind (m := Builtin.Tuple.tupleExact _) (wpAny_newObj_type (wpAny_bind (wpAny_pure (wpAny_pure ⟨_, rfl, wpAny_pure h⟩))) hfit)
    | exact wpAny_bind (wpAny_bind (m := Builtin.Tuple.tupleExact _) (wpAny_newObj_type (wpAny_pure (wpAny_pure ⟨_, rfl, wpAny_pure h⟩)) hfit))
    | exact wpAny_bind (wpAny_bind (m := Builtin.Tuple.tupleExact _) (wpAny_newObj_type (wpAny_pure ⟨_, rfl, wpAny_pure h⟩) hfit))
end

/-- xs[::-1], xs a list or a tuple -/
def tBack (K : PySem.W.Frag) (te : TE) : TE := fun σ H Q => te σ H fun x H1 => ∃ a xs, x = .ref a ∧ ((SqL K H1 a xs ∧ ∀ p, H1 p = none → Q (.ref p) (upd H1 p (.lst xs.reverse))) ∨ (SqT K H1 a xs ∧ ∀ p, H1 p = none → Q (.ref p) (upd H1 p (.tup xs.reverse))))
theorem pe_back {X : Cx} {e : Expr} {te : TE} {k : Nat} {p1 p2 p3 pos : Pos} (he : PE X e te) : PE X (.Subscript e (.Slice none none (some (.UnaryOp .USub (.Constant (.int 1) k p1) p2)) p3) pos) (tBack X.K te) := by
  refine ⟨fun pins s σ H Q I h => PyProof.Rows.Subscript_ (thn (he.run pins s σ H _ I h) fun v s1 hq => ?_)⟩
  obtain ⟨x, H1, I1, r1, a, xs, rfl, q⟩ := hq
  cases r1
  have neg1 : PO X (some (.UnaryOp .USub (.Constant (.int 1) k p1) p2)) (tPart (tUn (rU fun i => .int (-i)) (tC (.int 1)))) := po_some (pe_un un_neg pe_int)
  refine wpAny_Slice (thn (po_none.run pins s1 σ H1 (fun o H2 => o = none ∧ H2 = H1) I1 ⟨rfl, rfl⟩) fun vl s2 g2 => ?_)
  obtain ⟨o2, K2, I2, pl, e2, f2⟩ := g2
  rw [f2] at I2
  subst e2
  refine thn (po_none.run pins s2 σ H1 (fun o H2 => o = none ∧ H2 = H1) I2 ⟨rfl, rfl⟩) fun vu s3 g3 => ?_
  obtain ⟨o3, K3, I3, pu, e3, f3⟩ := g3
  rw [f3] at I3
  subst e3
  refine thn (neg1.run pins s3 σ H1 (fun o H2 => o = some (-1) ∧ H2 = H1) I3 ⟨1, rfl, -1, rfl, rfl, rfl⟩) fun vs s4 g4 => ?_
  obtain ⟨o4, K4, I4, ps, e4, f4⟩ := g4
  rw [f4] at I4
  subst e4
  have el : vl = .none := by cases pl; rfl
  have eu : vu = .none := by cases pu; rfl
  subst el eu
  have I5 : Inv X pins σ H1 { s4 with heap := s4.heap.push { cls := .type "slice", data := .fields #[.none, .none, vs] } } := I4.kept (t' := s4.toks) fun b ob q => Heap.get?_push_of_some _ q
  show wpAny (model X.prog X.w) X.A (PyProof.Rows.subscriptTail e (.Slice none none (some (.UnaryOp .USub (.Constant (.int 1) k p1) p2)) p3) (.ref a) (.ref s4.heap.objs.size)) (EP X pins σ Q) X.xe { s4 with heap := s4.heap.push { cls := .type "slice", data := .fields #[.none, .none, vs] } }
  rcases q with ⟨hx, q⟩ | ⟨hx, q⟩
  · obtain ⟨its, r, ht, hz⟩ := I5.list hx
    have hlen := r.length
    refine PyProof.Rows.tail_any (ops := [.ref a, .ref s4.heap.objs.size]) ht.isList.typeIs (PySem.slot_list_getitem.lookup) ?_ (by with_unfolding_all rfl)
    refine wpAny_getItem_list_slice ht.isList (Heap.IsSliceOf.new _ .none .none vs) pl pu ps (by decide) ?_ (by rw [List.size_toArray]; omega)
    rw [PySem.W.krv_pick]
    refine ⟨.ref _, _, I5.laid (t' := s4.toks) (o := .lst xs.reverse) (fun b ob q => Heap.get?_push_of_some _ q) (Nat.le_refl _) ?_, rfl, q _ (I5.hok.fresh (Nat.le_refl _))⟩
    exact ⟨by rw [List.length_reverse]; exact hz, _, 0, r.reverse, Heap.get?_push_size _ rfl⟩
  · obtain ⟨its, r, ht, hz⟩ := I5.tuple hx
    have hlen := r.length
    have ht : PyProof.Rows.IsTup (s4.heap.push { cls := .type "slice", data := .fields #[.none, .none, vs] }) a its.toArray := ht
    refine PyProof.Rows.tail_any (ops := [.ref a, .ref s4.heap.objs.size]) ht.typeIs (PyProof.Rows.slot_tuple_getitem.lookup) ?_ (by with_unfolding_all rfl)
    refine getItem_back ht (Heap.IsSliceOf.new _ .none .none vs) ps ?_ (by rw [List.size_toArray]; omega)
    refine ⟨.ref _, _, I5.laid (t' := s4.toks) (o := .tup xs.reverse) (fun b ob q => Heap.get?_push_of_some _ q) (Nat.le_refl _) ?_, rfl, q _ (I5.hok.fresh (Nat.le_refl _))⟩
    exact ⟨by rw [List.length_reverse]; exact hz, _, r.reverse, PyProof.Rows.IsTup.new _ _⟩
end Pd

/-! Pd, part 7: subscripts, slices, built-in functions, methods of lists. -/
namespace Pd
open PySem PySem.Spec L2

section
variable {X : Cx}
def rIxDct : R2 := fun x y H Q => ∃ a v, x = .ref a ∧ DGet H a y (some v) ∧ Q v H
theorem ix_dct (hu : X.A.units + 1 < cLine) : IxR X rIxDct := by
  intro value slice pins s σ H x y v u Q I rx ry h hs
  obtain ⟨a, z, rfl, g, q⟩ := h
  cases rx
  exact PyProof.Rows.tail_any (ops := [.ref a, u]) (dict_typeIs I g) PySem.F.slot_dict_getitem.lookup (d_getItem hu I g ry fun w' s' I' r => ⟨z, H, I', r, q⟩) hs
def rIxA (K : PySem.W.Frag) : R2 := fun x y H Q => rIx K x y H Q ∨ rIxDct x y H Q
theorem ix_all (hu : X.A.units + 1 < cLine) : IxR X (rIxA X.K) := ix_seq.or (ix_dct hu)
theorem plain_ix {b : Expr} (h : ∀ l u st p, b ≠ .Slice l u st p) : PlainIx b := by
  intro o i
  cases b <;> first | rfl | exact absurd rfl (h _ _ _ _)
end

theorem atI_rep {w : Wd} {ρ : List Addr} {H : Hp} {xs : List Val} {vs : List V} {i : Int} {v : Val} (r : RepVs w ρ H xs vs) (h : L2.atI xs i = some v) : ∃ x, L2.atI vs i = some x ∧ RepV w ρ H v x := by
  unfold L2.atI at h ⊢
  rw [r.length]
  cases q : L2.ixN xs.length i with
  | none => rw [q] at h; cases h
  | some j =>
    rw [q] at h
    exact r.get h
section
variable {w : Wd} {W : WX} {σ : L2.St} {ρ : List Addr} {H : Hp} {S : Store}
theorem ix_ok {x y : V} {u v : Val} {Q : VK} (ru : RepV w ρ H u x) (rv : RepV w ρ H v y) (rs : RepS w ρ H S) (p : Post w W σ (RepV w) ρ H (idxV u v S) Q) : rIxA w.K x y H Q := by
  unfold idxV at p
  split at p
  · simp only [RepV] at ru
    obtain ⟨a, rfl, a1⟩ := ru
    unfold idxStore at p
    split at p
    · rename_i kvs e
      obtain ⟨vs, h1, h2⟩ := dct_at rs a1 e
      split at p
      · rename_i q hq
        split at p
        · rename_i z hz
          obtain ⟨zx, k1, k2⟩ := valV_rep h2 hz
          have hy : y = kV q := by
            unfold keyOf at hq
            split at hq <;> first | cases hq | skip
            · simp only [RepV] at rv; rw [rv]; rfl
            · simp only [RepV] at rv; rw [rv]; rfl
          exact .inr ⟨a, zx, rfl, by rw [hy, ← k1]; exact DGet.k h1, p.ok k2 rs⟩
        · exact p.elim
      · exact p.elim
    · rename_i xs e
      obtain ⟨vs, h1, h2⟩ := lst_at rs a1 e
      split at p
      · split at p
        · rename_i z hz
          simp only [RepV] at rv
          obtain ⟨zx, k1, k2⟩ := atI_rep h2 hz
          exact .inl (.inl ⟨a, vs, _, zx, rfl, rv, SqL.of h1, k1, p.ok k2 rs⟩)
        · exact p.elim
      · exact p.elim
    · exact p.elim
  · simp only [RepV] at ru rv
    obtain ⟨a, vs, rfl, a1, a2⟩ := ru
    unfold ofOpt at p
    split at p
    · rename_i z hz
      obtain ⟨zx, k1, k2⟩ := atI_rep a2 hz
      exact .inl (.inr (.inl ⟨a, vs, _, zx, rfl, rv, a1.sq, k1, p.ok k2 rs⟩))
    · exact p.elim
  · rename_i z i
    simp only [RepV] at ru rv
    split at p
    · rename_i hz
      unfold ofOpt at p
      cases e : L2.atI z.cps.toList i with
      | none => rw [e] at p; exact p.elim
      | some c =>
        rw [e] at p
        exact .inl (.inr (.inr ⟨z, i, c, ru, rv, by rw [← size_eq]; exact hz, e, p.ok (by simp [RepV]) rs⟩))
    · exact p.elim
  · exact p.elim

theorem cut_rep {xs : List Val} {vs : List V} (r : RepVs w ρ H xs vs) (l h : Option Int) : RepVs w ρ H (cutL xs l h) (cutV vs l h) := by
  unfold cutL cutV
  rw [r.length]
  exact (r.drop _).take _
theorem cut_ints (ns : List Int) (l h : Option Int) : RepVs w ρ H (cutL (ns.map Val.int) l h) (cutV (ns.map V.int) l h) := cut_rep (RepVs.ints ns) l h
def rSlc (K : PySem.W.Frag) : V → Option Int → Option Int → Hp → VK → Prop := fun x lo hi H Q => rSlA K x lo hi H Q ∨ rSlL K x lo hi H Q ∨ rSlS x lo hi H Q
theorem sl_all {X : Cx} : SlR X (rSlc X.K) := sl_tupA.or (sl_list.or sl_str)
theorem cut_whole {α : Type} (xs : List α) (l h : Option Int) (e : HT.sIx xs.length 0 l = 0 ∧ HT.sIx xs.length xs.length h = xs.length) : cutL xs l h = xs := by
  unfold cutL
  rw [e.1, e.2]
  simp
theorem slc_ok {x : V} {u : Val} {l h : Option Int} {Q : VK} (ru : RepV w ρ H u x) (rs : RepS w ρ H S) (p : Post w W σ (RepV w) ρ H (slcV u l h S) Q) : rSlc w.K x l h H Q := by
  unfold slcV at p
  split at p
  · rename_i xs
    simp only [RepV] at ru
    obtain ⟨a, vs, rfl, a1, a2⟩ := ru
    refine .inl ⟨a, vs, rfl, a1.sq, fun e => ?_, fun _ q hq => ?_⟩
    · rw [a2.length] at e
      rw [cut_whole xs l h e] at p
      exact p.ok (by simp only [RepV]; exact ⟨a, vs, rfl, a1, a2⟩) rs
    · exact p _ _ _ (Ext.new rs hq) (rep_newtup rs hq (cut_rep a2 l h)) (rs.new hq)
  · rename_i z
    simp only [RepV] at ru
    split at p
    · rename_i hz
      refine .inr (.inr ⟨z, ru, by rw [← size_eq]; exact hz, ?_⟩)
      refine p.ok ?_ rs
      simp only [RepV]
      unfold cutS cutL
      rw [Array.length_toList]
      rfl
    · exact p.elim
  · rename_i ns
    simp only [RepV] at ru
    obtain ⟨a, rfl, a1⟩ := ru
    exact .inr (.inl ⟨a, _, rfl, a1.sq, p.alloc_lst rs (cut_ints ns l h)⟩)
  · simp only [RepV] at ru
    obtain ⟨a, rfl, a1⟩ := ru
    unfold cutLst at p
    split at p
    · rename_i xs e
      obtain ⟨vs, h1, h2⟩ := lst_at rs a1 e
      exact .inr (.inl ⟨a, vs, rfl, SqL.of h1, p.alloc_lst rs (cut_rep h2 l h)⟩)
    · exact p.elim
  · exact p.elim
end

section
variable {w : Wd} {T : Tab} {fuel k : Nat} {N : List Str} {ow sc : Scope} {W : WX} {X : Cx}
theorem de_idx (G : Good w T fuel k N ow sc W X) {a b : Expr} {ma mb : Env → M Val} {pos : Pos} (hs : ∀ l u st p, b ≠ .Slice l u st p) (ha : DE w W X a ma) (hb : DE w W X b mb) :
    DE w W X (.Subscript a b pos) (fun env => do let x ← ma env; let y ← mb env; idxV x y) := by
  obtain ⟨ta, pa, qa⟩ := ha.ex
  obtain ⟨tb, pb, qb⟩ := hb.ex
  refine ⟨_, pe_ix (ix_all (hu_of G.room)) pa pb (plain_ix hs), fun ρ σ H env S Q re rs p => ?_⟩
  refine qa ρ σ H env S _ re rs (p.bind.imp fun x H1 ⟨u, ρ1, S1, e1, r1, s1, p1⟩ => ?_)
  refine qb ρ1 σ H1 env S1 _ (re.ext e1) s1 (p1.bind.imp fun y H2 ⟨v, ρ2, S2, e2, r2, s2, p2⟩ => ?_)
  rw [G.hK]
  exact ix_ok (r1.ext e2) r2 s2 p2
/-- an end of a slice -/
structure DO (w : Wd) (W : WX) (X : Cx) (e : Option Expr) (m : Env → M (Option Int)) : Prop where
  ex : ∃ t, PO X e t ∧ ∀ ρ σ H env S (Q : Option Int → Hp → Prop), RepE w ρ H env σ → RepS w ρ H S → Post w W σ (fun _ _ a b => a = b) ρ H (m env S) Q → t σ H Q
theorem do_none : DO w W X none (fun _ => pure none) := ⟨_, po_none, fun ρ σ H env S Q re rs p => p.ok rfl rs⟩
theorem do_some {e : Expr} {m : Env → M Val} (h : DE w W X e m) : DO w W X (some e) (fun env => do
    let x ← m env
    match x with
    | .int i => pure (some i)
    | _ => stuck) := by
  obtain ⟨t, pt, q⟩ := h.ex
  refine ⟨_, po_some pt, fun ρ σ H env S Q re rs p => ?_⟩
  refine q ρ σ H env S _ re rs (p.bind.imp fun x H1 ⟨u, ρ1, S1, e1, r1, s1, p1⟩ => ?_)
  split at p1
  · simp only [RepV] at r1
    exact ⟨_, r1, p1.ok rfl s1⟩
  · exact p1.elim
theorem de_slc (G : Good w T fuel k N ow sc W X) {a : Expr} {lo hi : Option Expr} {ma : Env → M Val} {ml mh : Env → M (Option Int)} {pos p2 : Pos} (ha : DE w W X a ma) (hl : DO w W X lo ml) (hh : DO w W X hi mh) :
    DE w W X (.Subscript a (.Slice lo hi none p2) pos) (fun env => do let x ← ma env; let l ← ml env; let h ← mh env; slcV x l h) := by
  obtain ⟨ta, pa, qa⟩ := ha.ex
  obtain ⟨tl, pl, ql⟩ := hl.ex
  obtain ⟨th, ph, qh⟩ := hh.ex
  refine ⟨_, pe_slice sl_all pa pl ph, fun ρ σ H env S Q re rs p => ?_⟩
  refine qa ρ σ H env S _ re rs (p.bind.imp fun x H1 ⟨u, ρ1, S1, e1, r1, s1, p1⟩ => ?_)
  refine ql ρ1 σ H1 env S1 _ (re.ext e1) s1 (p1.bind.imp fun y H2 ⟨v, ρ2, S2, e2, r2, s2, p2⟩ => ?_)
  subst r2
  refine qh ρ2 σ H2 env S2 _ (re.ext (e1.trans e2)) s2 (p2.bind.imp fun z H3 ⟨v3, ρ3, S3, e3, r3, s3, p3⟩ => ?_)
  subst r3
  rw [G.hK]
  exact slc_ok ((r1.ext e2).ext e3) s3 p3
theorem de_rev (G : Good w T fuel k N ow sc W X) {a : Expr} {ma : Env → M Val} {j : Nat} {p1 p2 p3 pos : Pos} (ha : DE w W X a ma) :
    DE w W X (.Subscript a (.Slice none none (some (.UnaryOp .USub (.Constant (.int 1) j p1) p2)) p3) pos) (fun env => do let x ← ma env; revV x) := by
  obtain ⟨ta, pa, qa⟩ := ha.ex
  refine ⟨_, pe_back pa, fun ρ σ H env S Q re rs p => ?_⟩
  refine qa ρ σ H env S _ re rs (p.bind.imp fun x H1 ⟨u, ρ1, S1, e1, r1, s1, p1⟩ => ?_)
  rw [G.hK]
  unfold revV at p1
  split at p1
  · rename_i xs
    simp only [RepV] at r1
    obtain ⟨a, vs, rfl, a1, a2⟩ := r1
    refine ⟨a, vs, rfl, .inr ⟨a1.sq, fun q hq => ?_⟩⟩
    exact p1 _ _ _ (Ext.new s1 hq) (rep_newtup s1 hq a2.reverse) (s1.new hq)
  · rename_i ns
    simp only [RepV] at r1
    obtain ⟨a, rfl, a1⟩ := r1
    exact ⟨a, _, rfl, .inl ⟨a1.sq, p1.alloc_lst s1 (RepVs.ints ns).reverse⟩⟩
  · simp only [RepV] at r1
    obtain ⟨a, rfl, a1⟩ := r1
    unfold revLst at p1
    split at p1
    · rename_i xs e
      obtain ⟨vs, h1, h2⟩ := lst_at s1 a1 e
      exact ⟨a, vs, rfl, .inl ⟨SqL.of h1, p1.alloc_lst s1 h2.reverse⟩⟩
    · exact p1.elim
  · exact p1.elim
theorem de_neg {a : Expr} {ma : Env → M Val} {pos : Pos} (ha : DE w W X a ma) : DE w W X (.UnaryOp .USub a pos) (fun env => do
    let x ← ma env
    match x with
    | .int i => pure (.int (-i))
    | _ => stuck) := by
  obtain ⟨ta, pa, qa⟩ := ha.ex
  refine ⟨_, pe_un un_neg pa, fun ρ σ H env S Q re rs p => ?_⟩
  refine qa ρ σ H env S _ re rs (p.bind.imp fun x H1 ⟨u, ρ1, S1, e1, r1, s1, p1⟩ => ?_)
  split at p1
  · simp only [RepV] at r1
    exact ⟨_, r1, p1.ok (by simp [RepV]) s1⟩
  · exact p1.elim
end
end Pd

/-! Pd: rows of keys and values; dict(row of pairs). -/
namespace Pd
open PySem PySem.Spec L2

section
variable {w : Wd} {ρ : List Addr} {H : Hp} {κ : Type} [DecidableEq κ]
theorem RepKV.anyk {kvs : List (κ × Val)} {vs : List (κ × V)} (k : κ) (h : RepKV w ρ H kvs vs) : (vs.any fun e => decide (e.1 = k)) = kvs.any fun e => decide (e.1 = k) := by
  induction kvs generalizing vs with
  | nil => simp only [RepKV] at h; subst h; rfl
  | cons e r ih =>
    obtain ⟨q, u⟩ := e
    simp only [RepKV] at h
    obtain ⟨v, vr, rfl, _, h2⟩ := h
    simp only [List.any_cons, ih h2]
theorem RepKV.mapk {kvs : List (κ × Val)} {vs : List (κ × V)} {k : κ} {x : Val} {y : V} (h : RepKV w ρ H kvs vs) (r : RepV w ρ H x y) : RepKV w ρ H (kvs.map fun e => if e.1 = k then (e.1, x) else e) (vs.map fun e => if e.1 = k then (e.1, y) else e) := by
  induction kvs generalizing vs with
  | nil => simp only [RepKV] at h; subst h; simp [RepKV]
  | cons e l ih =>
    obtain ⟨q, u⟩ := e
    simp only [RepKV] at h
    obtain ⟨v, vr, rfl, h1, h2⟩ := h
    simp only [List.map_cons]
    by_cases c : q = k
    · rw [if_pos c, if_pos c]
      simp only [RepKV]
      exact ⟨y, _, rfl, r, ih h2⟩
    · rw [if_neg c, if_neg c]
      simp only [RepKV]
      exact ⟨v, _, rfl, h1, ih h2⟩
theorem RepKV.snoc {kvs : List (κ × Val)} {vs : List (κ × V)} {k : κ} {x : Val} {y : V} (h : RepKV w ρ H kvs vs) (r : RepV w ρ H x y) : RepKV w ρ H (kvs ++ [(k, x)]) (vs ++ [(k, y)]) := by
  induction kvs generalizing vs with
  | nil =>
    simp only [RepKV] at h
    subst h
    simp only [List.nil_append, RepKV]
    exact ⟨y, [], rfl, r, rfl⟩
  | cons e l ih =>
    obtain ⟨q, u⟩ := e
    simp only [RepKV] at h
    obtain ⟨v, vr, rfl, h1, h2⟩ := h
    simp only [List.cons_append, RepKV]
    exact ⟨v, _, rfl, h1, ih h2⟩
theorem RepKV.put {kvs : List (κ × Val)} {vs : List (κ × V)} {k : κ} {x : Val} {y : V} (h : RepKV w ρ H kvs vs) (r : RepV w ρ H x y) : RepKV w ρ H (putV kvs k x) (putK vs k y) := by
  unfold putV putK
  rw [h.anyk k]
  split
  · exact h.mapk r
  · exact h.snoc r
end

section
variable {w : Wd} {ρ : List Addr} {H : Hp}
theorem RepKV.merge : ∀ {more : List (DKey × Val)} {ms : List (DKey × V)} {kvs : List (DKey × Val)} {vs : List (DKey × V)}, RepKV w ρ H more ms → RepKV w ρ H kvs vs → RepKV w ρ H (mergeV kvs more) (mergeK vs ms)
  | [], _, _, _, h, g => by simp only [RepKV] at h; subst h; exact g
  | (k, x) :: r, _, kvs, vs, h, g => by
    simp only [RepKV] at h
    obtain ⟨v, l, rfl, h1, h2⟩ := h
    show RepKV w ρ H (mergeV (putV kvs k x) r) (mergeK (putK vs k v) l)
    exact RepKV.merge h2 (g.put h1)
end
section
variable {w : Wd} {W : WX}
/-- a dict of new -/
theorem Post.alloc_dct {σ : L2.St} {ρ : List Addr} {H : Hp} {S : Store} {kvs : List (DKey × Val)} {vs : List (DKey × V)} {Q : VK} (p : Post w W σ (RepV w) ρ H (alloc (.dct kvs) S) Q) (rs : RepS w ρ H S) (r : RepKV w ρ H kvs vs) :
    ∀ q, H q = none → Q (.ref q) (upd H q (.dK vs)) := fun q hq => by
  refine p _ _ _ (Ext.push rs hq) ?_ (rs.push hq ⟨vs, rfl, r.ext (Ext.push rs hq)⟩)
  simp only [RepV]
  exact ⟨q, rfl, by rw [← rs.len]; simp⟩

/-- pairs of keys and values -/
theorem pairs_read {ρ : List Addr} {H : Hp} : ∀ {l : List Val} {kvs : List (DKey × Val)} {vs : List V}, RepVs w ρ H l vs → pairsOf l = some kvs → ∃ (ps : List Addr) (us : List (DKey × V)), vs = ps.map V.ref ∧ RepKV w ρ H kvs us ∧ Paired (fun p kv => SqT w.K H p [kV kv.1, kv.2]) ps us
  | [], kvs, vs, r, h => by
    simp only [RepVs] at r
    simp only [pairsOf, Option.some.injEq] at h
    subst r h
    exact ⟨[], [], rfl, by simp [RepKV], .nil⟩
  | x :: l, kvs, vs, r, h => by
    unfold pairsOf at h
    split at h
    · rename_i heq
      cases heq
    · rename_i k v r' heq
      cases heq
      simp only [RepVs] at r
      obtain ⟨y, ys, rfl, r1, r2⟩ := r
      split at h
      · rename_i q m hq hm
        have h := Option.some.inj h
        subst h
        obtain ⟨ps, us, rfl, k1, k2⟩ := pairs_read r2 hm
        simp only [RepV] at r1
        obtain ⟨a, ws, rfl, a1, a2⟩ := r1
        simp only [RepVs] at a2
        obtain ⟨yk, _, rfl, b1, yv, _, rfl, b2, rfl⟩ := a2
        have e := key_kV hq b1
        subst e
        exact ⟨a :: ps, (q, yv) :: us, rfl, by simp only [RepKV]; exact ⟨yv, us, rfl, b2, k1⟩, .cons a1.sq k2⟩
      · cases h
    · cases h
end
end Pd

/-! Pd, part 8: built-in functions and methods. -/
namespace Pd
open PySem PySem.Spec L2

section
variable {w : Wd} {W : WX} {σ : L2.St} {ρ : List Addr} {H : Hp} {S : Store}
theorem lst_read (rs : RepS w ρ H S) {v : Val} {x : V} {l : List Val} (r : RepV w ρ H v x) (h : lstOf S v = some l) : ∃ a vs, x = .ref a ∧ SqL w.K H a vs ∧ RepVs w ρ H l vs := by
  unfold lstOf at h
  split at h
  · rename_i ns
    simp only [RepV] at r
    obtain ⟨a, rfl, a1⟩ := r
    have e := Option.some.inj h
    subst e
    exact ⟨a, _, rfl, a1.sq, RepVs.ints ns⟩
  · simp only [RepV] at r
    obtain ⟨a, rfl, a1⟩ := r
    split at h
    · rename_i xs e
      have e' := Option.some.inj h
      subst e'
      obtain ⟨vs, h1, h2⟩ := lst_at rs a1 e
      exact ⟨a, vs, rfl, SqL.of h1, h2⟩
    · cases h
  · cases h
theorem ints_of : ∀ {l : List Val} {ns : List Int} {vs : List V}, RepVs w ρ H l vs → intsOf l = some ns → vs = ns.map V.int
  | [], ns, vs, r, h => by
    simp only [RepVs] at r; subst r
    have e := Option.some.inj h
    subst e; rfl
  | x :: l, ns, vs, r, h => by
    simp only [RepVs] at r
    obtain ⟨v, u, rfl, r1, r2⟩ := r
    cases x <;> first | cases h | skip
    rename_i i
    have h' : (intsOf l).map (i :: ·) = some ns := h
    cases q : intsOf l with
    | none => rw [q] at h'; cases h'
    | some ms =>
      rw [q] at h'
      have e := Option.some.inj h'
      subst e
      simp only [RepV] at r1
      rw [r1, ints_of r2 q]
      rfl
theorem bools_of : ∀ {l : List Val} {ns : List Bool} {vs : List V}, RepVs w ρ H l vs → boolsOf l = some ns → vs = ns.map V.bl
  | [], ns, vs, r, h => by
    simp only [RepVs] at r; subst r
    have e := Option.some.inj h
    subst e; rfl
  | x :: l, ns, vs, r, h => by
    simp only [RepVs] at r
    obtain ⟨v, u, rfl, r1, r2⟩ := r
    cases x <;> first | cases h | skip
    rename_i i
    have h' : (boolsOf l).map (i :: ·) = some ns := h
    cases q : boolsOf l with
    | none => rw [q] at h'; cases h'
    | some ms =>
      rw [q] at h'
      have e := Option.some.inj h'
      subst e
      simp only [RepV] at r1
      rw [r1, bools_of r2 q]
      rfl
end

/-! ### repr, no repr under way -/
section
variable {X : Cx}
def rRepr (K : PySem.W.Frag) : List V → Hp → VK → Prop := fun xs H Q => ∃ x d, xs = [x] ∧ Dp K H x d ∧ d.showable = true ∧ d.shown.length ≤ sizeLine ∧ d.depth ≤ 60 ∧ d.hasDict = false ∧ Q (.str d.shown) H
theorem call_repr {k : Nat} (hr : Room k X.A) (hg : X.A.guards = some []) : CallR X (.builtin "repr") (rRepr X.K) := by
  intro pins s σ H xs us Q I r h
  obtain ⟨x, d, rfl, hd, hs, hz, hp, hn, q⟩ := h
  obtain ⟨u, rfl, ru⟩ := vals1 r
  obtain ⟨as, rd⟩ := Dp.reads I d x u hd ru
  have hu := hr.units
  cases hd with
  | non => cases ru; simp only [PyData.shown] at q; exact PySem.P.repr_of_none ⟨.str _, H, I.tok _, ⟨_, rfl⟩, q⟩
  | bl b => cases ru; simp only [PyData.shown] at q; exact PySem.P.repr_of_bool ⟨.str _, H, I.tok _, ⟨_, rfl⟩, q⟩
  | int i =>
    obtain ⟨t, rfl⟩ := ru
    simp only [PyData.shown] at q
    exact PySem.P.repr_of_int (by simpa [PyData.showable] using hs) ⟨.str _, H, I.tok _, ⟨_, rfl⟩, q⟩
  | str y =>
    obtain ⟨t, rfl⟩ := ru
    simp only [PyData.shown] at q hz
    exact PySem.P.repr_of_str ⟨.str _, H, I.tok _, ⟨_, rfl⟩, q⟩ hz
  | lst h1 h2 =>
    cases ru
    exact PySem.repr_of_reads' rd hs (PyData.noDict_hsm hn) hg (by omega) (fun _ _ e => e) (fun h' u tk hk => ⟨.str _, H, I.kept hk, ⟨_, rfl⟩, q⟩) hz
  | tup h1 h2 =>
    cases ru
    exact PySem.repr_of_reads' rd hs (PyData.noDict_hsm hn) hg (by omega) (fun _ _ e => e) (fun h' u tk hk => ⟨.str _, H, I.kept hk, ⟨_, rfl⟩, q⟩) hz
end

/-! ### list(text) -/
def sgV (x : Str) : List V := x.cps.toList.map fun c => V.str ⟨#[c]⟩
theorem sgV_vals {x : Str} {acc : Array Value} (h : ItemsOf (SignAt x) acc x.cps.size) : Vals (sgV x) acc.toList := by
  refine vals_of_at (by unfold sgV; rw [List.length_map, Array.length_toList, Array.length_toList, h.1]) fun j y u h1 h2 => ?_
  obtain ⟨c, t, e1, e2⟩ := h.2 j u (by rw [← Array.getElem?_toList]; exact h2)
  unfold sgV at h1
  rw [List.getElem?_map, Array.getElem?_toList, e1] at h1
  cases h1
  exact ⟨t, e2⟩
theorem call_list_s {X : Cx} (hc : X.calm = true) : CallR X (.type "list") (fun xs H Q => ∃ x, xs = [.str x] ∧ x.length ≤ sizeLine ∧ ∀ l, H l = none → Q (.ref l) (upd H l (.lst (sgV x)))) := by
  intro pins s σ H xs us Q I r h
  obtain ⟨x, rfl, hz, q⟩ := h
  obtain ⟨u, rfl, t, rfl⟩ := vals1 r
  refine call_list_str (I.ok.hd hc) x t (hn := hz) fun g tk acc c1 hk hS ha => ?_
  have hl : (sgV x).length ≤ sizeLine := by unfold sgV; rw [List.length_map, Array.length_toList]; exact hz
  exact ⟨.ref s.heap.objs.size, _, I.laid (t' := tk) hk (Nat.le_refl _) (show ObjOk X.prog X.w _ g _ (.lst (sgV x)) from ⟨hl, acc.toList, c1, sgV_vals ha, by rw [Array.toArray_toList]; exact hS⟩), rfl, q _ (I.hok.fresh (Nat.le_refl _))⟩
/-! ### the rules of each -/
def isTy : Bf → Bool
  | .int | .str | .tuple | .list | .dict1 => true
  | _ => false
def bfVal (b : Bf) : Value := match b with
  | .len => .builtin "len" | .abs => .builtin "abs" | .repr => .builtin "repr" | .str => .type "str" | .int => .type "int" | .tuple => .type "tuple" | .list => .type "list"
  | .sum => .builtin "sum" | .all => .builtin "all" | .any => .builtin "any" | .min2 => .builtin "min" | .max2 => .builtin "max" | .dict1 => .type "dict"
def rBf (K : PySem.W.Frag) : Bf → List V → Hp → VK → Prop
  | .len => fun xs H Q => (∃ p ys, xs = [.ref p] ∧ (SqL K H p ys ∨ SqT K H p ys) ∧ Q (.int ys.length) H) ∨ (∃ z, xs = [.str z] ∧ z.length ≤ sizeLine ∧ Q (.int z.length) H) ∨ (∃ a kvs, xs = [V.ref a] ∧ H a = some (.dK kvs) ∧ Q (.int kvs.length) H)
  | .abs => fun xs H Q => ∃ i, xs = [.int i] ∧ Q (.int (if i < 0 then -i else i)) H
  | .repr => rRepr K
  | .int => fun xs H Q => ((∃ i, xs = [.int i] ∧ Q (.int i) H) ∨ ∃ k, xs = [.bl k] ∧ Q (.int (if k then 1 else 0)) H) ∨ ∃ a n, xs = [.str a] ∧ PySem.intText? a = some n ∧ a.length ≤ 640 ∧ Q (.int n) H
  | .str => fun xs H Q => (∃ i, xs = [.int i] ∧ i.natAbs.log2 < 1920 ∧ Q (.str (toString i)) H) ∨ ∃ a, xs = [.str a] ∧ Q (.str a) H
  | .tuple => fun xs H Q => ∃ p ys, xs = [.ref p] ∧ ((SqL K H p ys ∧ ∀ l, H l = none → Q (.ref l) (upd H l (.tup ys))) ∨ (SqT K H p ys ∧ Q (.ref p) H))
  | .list => fun xs H Q => (∃ p ys, xs = [.ref p] ∧ (SqL K H p ys ∨ SqT K H p ys) ∧ ∀ l, H l = none → Q (.ref l) (upd H l (.lst ys))) ∨ ∃ x, xs = [.str x] ∧ x.length ≤ sizeLine ∧ ∀ l, H l = none → Q (.ref l) (upd H l (.lst (sgV x)))
  | .sum => rSum K
  | .all => rAll K
  | .any => rAny K
  | .min2 => fun xs H Q => ∃ i j, xs = [.int i, .int j] ∧ Q (.int (if j < i then j else i)) H
  | .max2 => fun xs H Q => ∃ i j, xs = [.int i, .int j] ∧ Q (.int (if j > i then j else i)) H
  | .dict1 => fun xs H Q => ∃ (a : Addr) (ps : List Addr) (kvs : List (DKey × V)), xs = [.ref a] ∧ SqL K H a (ps.map V.ref) ∧ Paired (fun p kv => SqT K H p [kV kv.1, kv.2]) ps kvs ∧ ∀ p, H p = none → Q (.ref p) (upd H p (.dK (mergeK [] kvs)))
theorem cr_bf {X : Cx} {k : Nat} (hr : Room k X.A) (hg : X.A.guards = some []) (hc : X.calm = true) (b : Bf) : CallR X (bfVal b) (rBf X.K b) := by
  cases b
  · exact call_len_seq.or (call_len_str.or call_lenD)
  · exact call_abs
  · exact call_repr hr hg
  · exact call_str_int.or SkE.call_str_str
  · exact call_int1.or call_int_str
  · exact call_tuple_of
  · exact call_list_of.or (call_list_s hc)
  · exact cr_sum hc
  · exact cr_all hc
  · exact cr_any hc
  · exact call_min2 hc
  · exact call_max2 hc
  · exact call_dictP hc
theorem pe_bf {X : Cx} {b : Bf} {r : List V → Hp → VK → Prop} {e : Expr} {es : List Expr} {t : TA} {p pos : Pos} (hc : CallR X (bfVal b) r) (hg : Gl X (bfName b)) (hm : X.mg (bfName b) = none) (ha : PA X (e :: es) t)
    (he : starEach (e :: es) X.env = (false, eval e X.env) :: starEach es X.env) (hpl : (backTo pos (starEach es X.env)).any (·.1) = false) : PE X (.Call (.Name (bfName b) p) (e :: es) [] pos) (tCB r t) := by
  cases b <;> first
    | exact pe_callB hc hg hm (by decide +kernel) ha (by decide +kernel) (by decide +kernel) he hpl
    | exact pe_callTy hc hg hm (by decide +kernel) ha (by decide +kernel) (by decide +kernel) he hpl

section
variable {w : Wd} {W : WX} {σ : L2.St} {ρ : List Addr} {H : Hp} {S : Store}
theorem rep_sgV {x : Str} : RepVs w ρ H (x.cps.toList.map fun c => Val.str ⟨#[c]⟩) (sgV x) := by
  unfold sgV
  induction x.cps.toList with
  | nil => simp [RepVs]
  | cons c r ih =>
    simp only [List.map_cons, RepVs]
    exact ⟨_, _, rfl, by simp [RepV], ih⟩
theorem bf_ok {b : Bf} {us : List Val} {xs : List V} {Q : VK} (r : RepVs w ρ H us xs) (rs : RepS w ρ H S) (p : Post w W σ (RepV w) ρ H (biV b us S) Q) : rBf w.K b xs H Q := by
  unfold biV at p
  split at p
  · rename_i v
    simp only [RepVs] at r
    obtain ⟨x, _, rfl, r1, rfl⟩ := r
    cases b <;> dsimp only at p <;> first | exact p.elim | skip
    · -- len
      unfold lenV at p
      split at p
      · split at p
        · rename_i hz
          simp only [RepV] at r1
          subst r1
          exact .inr (.inl ⟨_, rfl, by rw [← size_eq]; exact hz, p.ok (by simp [RepV]) rs⟩)
        · exact p.elim
      · split at p
        · rename_i l hl
          obtain ⟨a, vs, rfl, h1, h2⟩ := seq_read rs r1 hl
          exact .inl ⟨a, vs, rfl, h1, p.ok (by simp [RepV, h2.length]) rs⟩
        · split at p
          · split at p
            · rename_i kvs hk
              simp only [RepV] at r1
              obtain ⟨a, rfl, a1⟩ := r1
              obtain ⟨vs, h1, h2⟩ := dct_at rs a1 hk
              exact .inr (.inr ⟨a, vs, rfl, h1, p.ok (by simp [RepV, h2.length]) rs⟩)
            · exact p.elim
          · exact p.elim
    · unfold absF at p
      split at p
      · simp only [RepV] at r1; subst r1
        exact ⟨_, rfl, p.ok (by simp [RepV]) rs⟩
      · exact p.elim
    · unfold reprV at p
      split at p
      · rename_i d hd
        split at p
        · rename_i hz
          simp only [Bool.and_eq_true, decide_eq_true_eq, Bool.not_eq_true'] at hz
          exact ⟨x, d, rfl, dp_of rs _ _ _ _ r1 hd, hz.1.1.1, by rw [← size_eq]; exact hz.1.1.2, hz.1.2, hz.2, p.ok (by simp [RepV]) rs⟩
        · exact p.elim
      · exact p.elim
    · unfold strF at p
      split at p
      · split at p
        · rename_i hz
          simp only [RepV] at r1; subst r1
          exact .inl ⟨_, rfl, hz, p.ok (by simp [RepV]) rs⟩
        · exact p.elim
      · simp only [RepV] at r1; subst r1
        exact .inr ⟨_, rfl, p.ok (by simp [RepV]) rs⟩
      · exact p.elim
    · unfold intF at p
      split at p
      · simp only [RepV] at r1; subst r1
        exact .inl (.inl ⟨_, rfl, p.ok (by simp [RepV]) rs⟩)
      · simp only [RepV] at r1; subst r1
        exact .inl (.inr ⟨_, rfl, p.ok (by simp [RepV]) rs⟩)
      · simp only [RepV] at r1; subst r1
        rename_i y
        by_cases hz : y.length ≤ 640
        · rw [if_pos hz] at p
          cases hn : PySem.intText? y with
          | none => rw [hn] at p; exact p.elim
          | some n =>
            rw [hn] at p
            have p : Post w W σ (RepV w) ρ H (.ok (.int n) S) Q := p
            exact .inr ⟨_, n, rfl, hn, hz, p.ok (by simp [RepV]) rs⟩
        · rw [if_neg hz] at p; exact p.elim
      · exact p.elim
    · unfold tupF at p
      split at p
      · have r1' := r1
        simp only [RepV] at r1
        obtain ⟨a, vs, rfl, a1, a2⟩ := r1
        exact ⟨a, vs, rfl, .inr ⟨a1.sq, p.ok r1' rs⟩⟩
      · split at p
        · rename_i l hl
          obtain ⟨a, vs, rfl, h1, h2⟩ := lst_read rs r1 hl
          exact ⟨a, vs, rfl, .inl ⟨h1, fun q hq => p _ _ _ (Ext.new rs hq) (rep_newtup rs hq h2) (rs.new hq)⟩⟩
        · exact p.elim
    · unfold lstF at p
      split at p
      · rename_i l hl
        obtain ⟨a, vs, rfl, h1, h2⟩ := seq_read rs r1 hl
        exact .inl ⟨a, vs, rfl, h1, p.alloc_lst rs h2⟩
      · split at p
        · split at p
          · rename_i hz
            simp only [RepV] at r1
            subst r1
            exact .inr ⟨_, rfl, by rw [← size_eq]; exact hz, p.alloc_lst rs rep_sgV⟩
          · exact p.elim
        · exact p.elim
    · unfold sumF at p
      split at p
      · rename_i l hl
        split at p
        · rename_i ns hn
          obtain ⟨a, vs, rfl, h1, h2⟩ := lst_read rs r1 hl
          have e := ints_of h2 hn
          subst e
          exact ⟨a, ns, rfl, h1, p.ok (by simp [RepV]) rs⟩
        · exact p.elim
      · exact p.elim
    · unfold allF at p
      split at p
      · rename_i l hl
        split at p
        · rename_i ns hn
          obtain ⟨a, vs, rfl, h1, h2⟩ := lst_read rs r1 hl
          have e := bools_of h2 hn
          subst e
          exact ⟨a, ns, rfl, h1, p.ok (by simp [RepV]) rs⟩
        · exact p.elim
      · exact p.elim
    · unfold anyF at p
      split at p
      · rename_i l hl
        split at p
        · rename_i ns hn
          obtain ⟨a, vs, rfl, h1, h2⟩ := lst_read rs r1 hl
          have e := bools_of h2 hn
          subst e
          exact ⟨a, ns, rfl, h1, p.ok (by simp [RepV]) rs⟩
        · exact p.elim
      · exact p.elim
    · unfold dictF at p
      split at p
      · rename_i l hl
        split at p
        · rename_i kvs hk
          obtain ⟨a, vs, rfl, h1, h2⟩ := lst_read rs r1 hl
          obtain ⟨ps, us, rfl, k1, k2⟩ := pairs_read h2 hk
          exact ⟨a, ps, us, rfl, h1, k2, Post.alloc_dct p rs (RepKV.merge k1 (by simp [RepKV]))⟩
        · exact p.elim
      · exact p.elim
  · rename_i v u
    simp only [RepVs] at r
    obtain ⟨x, _, rfl, r1, y, _, rfl, r2, rfl⟩ := r
    cases b <;> dsimp only at p <;> first | exact p.elim | skip
    · unfold minF at p
      split at p
      · simp only [RepV] at r1 r2; subst r1 r2
        exact ⟨_, _, rfl, p.ok (by simp [RepV]) rs⟩
      · exact p.elim
    · unfold maxF at p
      split at p
      · simp only [RepV] at r1 r2; subst r1 r2
        exact ⟨_, _, rfl, p.ok (by simp [RepV]) rs⟩
      · exact p.elim
  · exact p.elim
end

section
variable {w : Wd} {T : Tab} {fuel k : Nat} {N : List Str} {ow sc : Scope} {W : WX} {X : Cx}
/-- plain arguments -/
def NoStar (es : List Expr) : Prop := ∀ e ∈ es, ∀ x p, e ≠ .Starred x p
theorem NoStar.any {es : List Expr} (h : NoStar es) (env : PySem.Env) (pos : Pos) : (backTo pos (starEach es env)).any (·.1) = false := by
  induction es with
  | nil => rfl
  | cons e es ih =>
    rw [star_cons (h e List.mem_cons_self)]
    show (false || (backTo pos (starEach es env)).any (·.1)) = false
    rw [ih fun x hx => h x (List.mem_cons_of_mem _ hx)]
    rfl
theorem de_bi (G : Good w T fuel k N ow sc W X) {b : Bf} {e : Expr} {es : List Expr} {ms : Env → M (List Val)} {p pos : Pos} (hg : glB sc (bfName b) = true) (hm : bfName b ∈ T.blts) (hn : NoStar (e :: es)) (hs : DA w W X (e :: es) ms) :
    DE w W X (.Call (.Name (bfName b) p) (e :: es) [] pos) (fun env => do let xs ← ms env; biV b xs) := by
  obtain ⟨t, pt, q⟩ := hs.ex
  refine ⟨_, pe_bf (cr_bf G.room G.grd G.calm b) (gl_of G hg) (G.blts _ hm) pt (star_cons (hn e List.mem_cons_self)) (NoStar.any (fun x hx => hn x (List.mem_cons_of_mem _ hx)) _ _), fun ρ σ H env S Q re rs p => ?_⟩
  refine q ρ σ H env S _ re rs (p.bind.imp fun xs H1 ⟨us, ρ1, S1, e1, r1, s1, p1⟩ => ?_)
  show rBf X.K b xs H1 Q
  rw [G.hK]
  exact bf_ok r1 s1 p1
end
end Pd

/-! Pd, part 9: calls of the text's own defs; methods of lists; isinstance. -/
namespace Pd
open PySem PySem.Spec L2

section
variable {w : Wd} {T : Tab} {fuel k : Nat} {N : List Str} {ow sc : Scope} {W : WX} {X : Cx}
/-- the callee runs; what it raises is ours to take -/
theorem run_own {j : Nat} {f : Addr} {fd : FuncData} {ps : List Str} {sp : Sp} {pins : List (Addr × Obj)} {σ : L2.St} {H : Hp} {s : Shared} {Q : VK} {us : List Value} {vs : List V}
    (F : FnG X.prog X.w X.K X.mg X.base j f fd ps sp) (hr : Room j X.A) (hg : X.A.guards = some []) (hb : Binds X.K fd ps []) (tk : Takes X W) (I : Inv X pins σ H s) (r : Vals vs us)
    (h : sp vs H Q (fun c d H' => W c d σ H')) : wpAny (model X.prog X.w) X.A (call (.ref f) us) (EP X pins σ Q) X.xe s := by
  have hl : us.length = ps.length := by rw [← r.length]; exact F.len _ _ _ _ h
  have hb' : BindsTo s fd ⟨us, []⟩ (ps.zip us) := by
    have := hb s us I.kIn (by simpa using hl)
    simpa using this
  refine wpAny_call (codeAny_mono (F.run X.A X.stack s H ⟨us, []⟩ us vs Q _ hr hg I.env0 hb' r h) fun res s' hq => ?_)
  cases res with
  | error e => exact tk e s' (XE.of_call I (fun _ _ _ z => z) hq)
  | ok fl =>
    cases fl with
    | ret u => exact I.after hq
    | next => exact hq.elim
    | brk => exact hq.elim
    | cont => exact hq.elim
def tOwn (W : WX) (sp : Sp) (t : TA) : TE := fun σ H Q => t σ H fun vs H1 => sp vs H1 Q (fun c d H' => W c d σ H')
theorem pe_own {j : Nat} {f : Addr} {fd : FuncData} {ps : List Str} {sp : Sp} {x : Str} {p pos : Pos} {e : Expr} {es : List Expr} {t : TA}
    (F : FnG X.prog X.w X.K X.mg X.base j f fd ps sp) (hr : Room j X.A) (hg : X.A.guards = some []) (hb : Binds X.K fd ps []) (tk : Takes X W)
    (hx : Gl X x) (hm : X.mg x = some (.ref f)) (hk : PySem.W.keepIn X.K (.ref f) = true) (hdb : (x == ("__debug__" : Str)) = false) (ha : PA X (e :: es) t)
    (he : starEach (e :: es) X.env = (false, eval e X.env) :: starEach es X.env) (hpl : (backTo pos (starEach es X.env)).any (·.1) = false) :
    PE X (.Call (.Name x p) (e :: es) [] pos) (tOwn W sp t) := by
  refine ⟨fun pins s σ H Q I h => wpAny_Call_Name_kw (ld_glob I hx hm ?_ hdb)⟩
  refine PySem.W.callWith_K (h₀ := X.base) I.ok.mod.kin hk (thn (ha.run pos pins s σ H _ I h) fun us s1 ⟨vs, H1, I1, r, q⟩ => ⟨I1.kIn, ?_⟩) he hpl
  exact run_own F hr hg hb tk I1 r q
theorem pe_own0 {j : Nat} {f : Addr} {fd : FuncData} {ps : List Str} {sp : Sp} {x : Str} {p pos : Pos}
    (F : FnG X.prog X.w X.K X.mg X.base j f fd ps sp) (hr : Room j X.A) (hg : X.A.guards = some []) (hb : Binds X.K fd ps []) (tk : Takes X W)
    (hx : Gl X x) (hm : X.mg x = some (.ref f)) (hk : PySem.W.keepIn X.K (.ref f) = true) (hdb : (x == ("__debug__" : Str)) = false) :
    PE X (.Call (.Name x p) [] [] pos) (tOwn W sp tNil) := by
  refine ⟨fun pins s σ H Q I h => wpAny_Call_Name_kw (ld_glob I hx hm ?_ hdb)⟩
  exact PySem.W.callWith_K0 I.kIn hk (run_own (us := []) F hr hg hb tk I .nil h)

theorem own_ok {f : Nat} {d : FnD} (hd : T.fns[f]? = some d) {ρ : List Addr} {σ : L2.St} {H : Hp} {us : List Val} {xs : List V} {S : Store} {Q : VK} (r1 : RepVs w ρ H us xs) (s1 : RepS w ρ H S)
    (p1 : Post w W σ (RepV w) ρ H (callF T fuel k f us S) Q) : spOf w T fuel k f xs H Q (fun c d H' => W c d σ H') := by
  refine ⟨d, ρ, S, us, hd, r1, s1, ?_, p1⟩
  cases k with
  | zero => exact p1.elim
  | succ k' =>
    unfold callF at p1
    rw [hd] at p1
    dsimp only at p1
    by_cases c : us.length = d.np
    · exact c
    · rw [if_neg c] at p1; exact p1.elim
theorem de_call (G : Good w T fuel k N ow sc W X) {f : Nat} (hni : T.ini f = false) {x : Str} {e : Expr} {es : List Expr} {ms : Env → M (List Val)} {p pos : Pos} {d : FnD} (hd : T.fns[f]? = some d) (hx : d.name = x) (hg : glB sc x = true) (hdb : notDbg x = true)
    (hn : NoStar (e :: es)) (hs : DA w W X (e :: es) ms) :
    DE w W X (.Call (.Name x p) (e :: es) [] pos) (fun env => do let xs ← ms env; callF T fuel k f xs) := by
  obtain ⟨t, pt, q⟩ := hs.ex
  obtain ⟨a, fd, h0, F, _⟩ := (G.fns f d hd).ex
  obtain ⟨hm, hk, hb, _⟩ := h0 hni
  rw [hx] at hm
  have F' : FnG X.prog X.w X.K X.mg X.base (2 * k + 1) a fd (d.N.take d.np) (spOf w T fuel k f) := by rw [G.hK]; exact F
  refine ⟨_, pe_own (W := W) F' (G.room.mono (by omega)) G.grd (by rw [G.hK]; exact hb) G.tk (gl_of G hg) hm (by rw [G.hK]; exact hk) (dbg_of hdb).1 pt (star_cons (hn e List.mem_cons_self)) (NoStar.any (fun x hx => hn x (List.mem_cons_of_mem _ hx)) _ _),
    fun ρ σ H env S Q re rs p => ?_⟩
  refine q ρ σ H env S _ re rs (p.bind.imp fun xs H1 ⟨us, ρ1, S1, e1, r1, s1, p1⟩ => ?_)
  exact own_ok hd r1 s1 p1
theorem de_call0 (G : Good w T fuel k N ow sc W X) {f : Nat} (hni : T.ini f = false) {x : Str} {p pos : Pos} {d : FnD} (hd : T.fns[f]? = some d) (hx : d.name = x) (hg : glB sc x = true) (hdb : notDbg x = true) :
    DE w W X (.Call (.Name x p) [] [] pos) (fun _ => do let xs ← (pure [] : M (List Val)); callF T fuel k f xs) := by
  obtain ⟨a, fd, h0, F, _⟩ := (G.fns f d hd).ex
  obtain ⟨hm, hk, hb, _⟩ := h0 hni
  rw [hx] at hm
  have F' : FnG X.prog X.w X.K X.mg X.base (2 * k + 1) a fd (d.N.take d.np) (spOf w T fuel k f) := by rw [G.hK]; exact F
  refine ⟨_, pe_own0 (W := W) F' (G.room.mono (by omega)) G.grd (by rw [G.hK]; exact hb) G.tk (gl_of G hg) hm (by rw [G.hK]; exact hk) (dbg_of hdb).1, fun ρ σ H env S Q re rs p => ?_⟩
  exact own_ok hd (by simp [RepVs]) rs p

/-! ### isinstance -/
theorem ty_at (G : Good w T fuel k N ow sc W X) {ρ : List Addr} {H : Hp} {S : Store} (rs : RepS w ρ H S) {v : Val} {x : V} (r : RepV w ρ H v x) :
    ∃ u, tyVal w (tyV S v) = some u ∧ TyX X.K H x u := by
  rw [G.hK]
  cases v with
  | non => simp only [RepV] at r; subst r; exact ⟨_, rfl, .base .non⟩
  | bl b => simp only [RepV] at r; subst r; exact ⟨_, rfl, .base (.bl b)⟩
  | int b => simp only [RepV] at r; subst r; exact ⟨_, rfl, .base (.int b)⟩
  | str b => simp only [RepV] at r; subst r; exact ⟨_, rfl, .base (.str b)⟩
  | tup xs =>
    simp only [RepV] at r
    obtain ⟨a, vs, rfl, a1, a2⟩ := r
    refine ⟨_, rfl, ?_⟩
    rcases a1 with ⟨_, h | ⟨o, h⟩⟩ | ⟨o, its, n, h, hc, _⟩
    · exact .base (.tup h)
    · exact .fTuple h
    · exact .kTuple h hc
  | ins c fs =>
    simp only [RepV] at r
    obtain ⟨p, C, dx, ns, vs, rfl, h1, _, h3, _⟩ := r
    have A := G.cls c C ns h1
    refine ⟨.ref C, by show (w.cls c).map _ = _; rw [h1]; rfl, .base (.ins h3 A.cl A.ha A.hn A.ht A.hm)⟩
  | scr ns =>
    simp only [RepV] at r
    obtain ⟨a, rfl, a1⟩ := r
    refine ⟨_, rfl, ?_⟩
    rcases a1 with ⟨_, o, h⟩ | ⟨o, its, n, h, hc, _⟩
    · exact .base (.frz h)
    · exact .kList h hc
  | ref i =>
    simp only [RepV] at r
    obtain ⟨a, rfl, a1⟩ := r
    obtain ⟨j, c, o, h1, h2, h3, h4⟩ := rs.there (List.mem_of_getElem? a1)
    have hi : i < S.length := by rw [← rs.len]; exact (List.getElem?_eq_some_iff.mp a1).1
    obtain ⟨o, h3, h4⟩ := rs.cell i a _ a1 (List.getElem?_eq_getElem hi)
    have e : S[i]? = some S[i] := List.getElem?_eq_getElem hi
    cases q : S[i] with
    | lst xs =>
      rw [q] at h4 e
      obtain ⟨vs, rfl, _⟩ := h4
      exact ⟨.type "list", by simp only [tyV, e, tyVal], .base (.lst h3)⟩
    | dct xs =>
      rw [q] at h4 e
      obtain ⟨vs, rfl, _⟩ := h4
      exact ⟨.type "dict", by simp only [tyV, e, tyVal], .base (.dK h3)⟩
    | dtt xs =>
      rw [q] at h4 e
      obtain ⟨vs, rfl, _⟩ := h4
      exact ⟨.type "dict", by simp only [tyV, e, tyVal], .base (.dT h3)⟩
    | obj c fs =>
      rw [q] at h4 e
      obtain ⟨C, dx, ns, vs, rfl, h5, _⟩ := h4
      have A := G.cls c C ns h5
      exact ⟨.ref C, by simp only [tyV, e, tyVal, h5]; rfl, .base (.ins h3 A.cl A.ha A.hn A.ht A.hm)⟩

/-- the types' names, as values -/
def ownA (w : Wd) (c : Nat) : Addr := match w.cls c with
  | some (C, _) => C
  | none => 0
def tyVs (w : Wd) : List Ty → List V
  | [] => []
  | t :: ts => (match t with | .int => .ty "int" | .bool => .ty "bool" | .str => .ty "str" | .tuple => .ty "tuple" | .list => .ty "list" | .dict => .ty "dict" | .own c => .ref (ownA w c)) :: tyVs w ts
def tyUs (w : Wd) : List Ty → List Value
  | [] => []
  | t :: ts => (match t with | .int => .type "int" | .bool => .type "bool" | .str => .type "str" | .tuple => .type "tuple" | .list => .type "list" | .dict => .type "dict" | .own c => .ref (ownA w c)) :: tyUs w ts
theorem tyVs_len {w : Wd} : ∀ ts : List Ty, (tyVs w ts).length = ts.length
  | [] => rfl
  | _ :: ts => by simp [tyVs, tyVs_len ts]
theorem ty_names (G : Good w T fuel k N ow sc W X) : ∀ (ts : List Ty) (es : List Expr), tyB T sc ts es = true →
    (∃ t, PA X es t ∧ ∀ σ H (Q : List V → Hp → Prop), Q (tyVs w ts) H → t σ H Q) ∧ Paired ClsV (tyVs w ts) (tyUs w ts) ∧ (∀ t ∈ ts, t ∈ T.tys) ∧ NoStar es ∧
      ∀ t u, tyVal w t = some u → PySem.W.kitAny w.K u (tyUs w ts) = some (ts.any (tyMatch t))
  | [], es, h => by
    cases es with
    | nil => exact ⟨⟨_, pa_nil, fun σ H Q q => q⟩, .nil, fun _ z => (List.not_mem_nil z).elim, (fun _ z => (List.not_mem_nil z).elim), fun _ _ _ => rfl⟩
    | cons e es => cases h
  | t :: ts, es, h => by
    cases es with
    | nil => cases h
    | cons e es =>
      cases e <;> first | cases h | skip
      rename_i x p
      simp only [tyB, Bool.and_eq_true, decide_eq_true_eq] at h
      obtain ⟨⟨⟨h1, h2⟩, h5⟩, h6⟩ := h
      obtain ⟨⟨tt, pt, q⟩, k1, k2, k3, k4⟩ := ty_names G ts es h6
      have one : ∃ te v u, PE X (.Name x p) te ∧ (∀ σ H (Q : VK), Q v H → te σ H Q) ∧ ClsV v u ∧ tyVs w (t :: ts) = v :: tyVs w ts ∧ tyUs w (t :: ts) = u :: tyUs w ts ∧ tyVal w (some t) = some u := by
        cases t
        case own c =>
          simp only [Bool.and_eq_true, decide_eq_true_eq] at h1
          obtain ⟨h1, h3⟩ := h1
          cases q : T.cs[c]? with
          | none => rw [q] at h1; cases h1
          | some d =>
            rw [q] at h1
            have hx : d.name = x := Option.some.inj h1
            obtain ⟨C, c1, c2⟩ := G.ca.at_ c d q
            rw [hx] at c2
            have eo : ownA w c = C := by unfold ownA; rw [c1]
            refine ⟨_, .ref C, .ref C, pe_glob (v := .ref C) (gl_of G h2) c2 rfl (dbg_of h3).1, fun σ H Q q => q, .own _, ?_, ?_, ?_⟩
            · show V.ref (ownA w c) :: _ = _; rw [eo]
            · show Value.ref (ownA w c) :: _ = _; rw [eo]
            · show (w.cls c).map _ = _; rw [c1]; rfl
        all_goals
          simp only [Bool.and_eq_true, decide_eq_true_eq] at h1
          obtain ⟨h1, h3⟩ := h1
          have hm := G.blts x (by simpa using h3)
          subst h1
          first
            | exact ⟨_, .ty "int", .type "int", pe_bltn (v := .ty "int") (u := .type "int") (gl_of G h2) hm (by decide +kernel) rfl (by decide +kernel) (by decide +kernel), fun σ H Q q => q, .ty _, rfl, rfl, rfl⟩
            | exact ⟨_, .ty "bool", .type "bool", pe_bltn (v := .ty "bool") (u := .type "bool") (gl_of G h2) hm (by decide +kernel) rfl (by decide +kernel) (by decide +kernel), fun σ H Q q => q, .ty _, rfl, rfl, rfl⟩
            | exact ⟨_, .ty "str", .type "str", pe_bltn (v := .ty "str") (u := .type "str") (gl_of G h2) hm (by decide +kernel) rfl (by decide +kernel) (by decide +kernel), fun σ H Q q => q, .ty _, rfl, rfl, rfl⟩
            | exact ⟨_, .ty "tuple", .type "tuple", pe_bltn (v := .ty "tuple") (u := .type "tuple") (gl_of G h2) hm (by decide +kernel) rfl (by decide +kernel) (by decide +kernel), fun σ H Q q => q, .ty _, rfl, rfl, rfl⟩
            | exact ⟨_, .ty "list", .type "list", pe_bltn (v := .ty "list") (u := .type "list") (gl_of G h2) hm (by decide +kernel) rfl (by decide +kernel) (by decide +kernel), fun σ H Q q => q, .ty _, rfl, rfl, rfl⟩
            | exact ⟨_, .ty "dict", .type "dict", pe_bltn (v := .ty "dict") (u := .type "dict") (gl_of G h2) hm (by decide +kernel) rfl (by decide +kernel) (by decide +kernel), fun σ H Q q => q, .ty _, rfl, rfl, rfl⟩
      obtain ⟨te, v, u, o1, o2, o3, o4, o5, o6⟩ := one
      refine ⟨⟨_, pa_cons o1 pt rfl, fun σ H Q hq => o2 σ H _ (q σ H _ (by rw [o4] at hq; exact hq))⟩, by rw [o4, o5]; exact .cons o3 k1, ?_, ?_, fun t' u' hu => ?_⟩
      · intro z hz
        rcases List.mem_cons.mp hz with rfl | hz
        · exact h5
        · exact k2 z hz
      · intro z hz
        rcases List.mem_cons.mp hz with rfl | hz
        · intro _ _ q; cases q
        · exact k3 z hz
      · have e1 := G.isi t' t u' u h5 hu o6
        have e2 := k4 t' u' hu
        rw [o5]
        refine kitAny_cons (b := tyMatch t' t) e1 (fun hb => ?_) (fun hb => ?_)
        · rw [e2, List.any_cons, hb]; rfl
        · rw [List.any_cons, hb]; rfl

theorem de_isin1 (G : Good w T fuel k N ow sc W X) {t : Ty} {e : Expr} {n : Str} {m : Env → M Val} {p q pos : Pos} (hg : glB sc "isinstance" = true) (hm : ("isinstance" : Str) ∈ T.blts) (hs : ∀ x p, e ≠ .Starred x p) (he : DE w W X e m) (ht : tyB T sc [t] [.Name n q] = true) :
    DE w W X (.Call (.Name "isinstance" p) [e, .Name n q] [] pos) (fun env => do let x ← m env; isinV [t] x) := by
  obtain ⟨te, pe, qe⟩ := he.ex
  obtain ⟨⟨tt, pt, qt⟩, k1, k2, k3, k4⟩ := ty_names G [t] _ ht
  refine ⟨_, pe_callB call_isi (gl_of G hg) (G.blts _ hm) (by decide +kernel) (pa_cons pe pt (star_cons hs)) (by decide +kernel) (by decide +kernel) (star_cons hs) (NoStar.any k3 _ _), fun ρ σ H env S Q re rs p => ?_⟩
  refine qe ρ σ H env S _ re rs (p.bind.imp fun x H1 ⟨u, ρ1, S1, e1, r1, s1, p1⟩ => qt σ H1 _ ?_)
  obtain ⟨tv, h1, h2⟩ := ty_at G s1 r1
  have e := k4 _ _ h1
  cases k1 with
  | cons c1 c2 =>
    refine ⟨x, _, tv, _, [t].any (tyMatch (tyV S1 u)), rfl, c1, h2, ?_, p1.ok (by simp [RepV]) s1⟩
    rw [G.hK]
    unfold tyUs at e
    have e3 : tyUs w [] = [] := rfl
    rw [e3] at e
    unfold PySem.W.kitAny at e
    split at e
    · rename_i hb
      rw [hb, e]
    · rename_i hb
      rw [hb, ← e]
      rfl
    · cases e
theorem de_isinT (G : Good w T fuel k N ow sc W X) {ts : List Ty} {e : Expr} {es : List Expr} {j : Nat} {m : Env → M Val} {p q pos : Pos} (hg : glB sc "isinstance" = true) (hm : ("isinstance" : Str) ∈ T.blts) (hs : ∀ x p, e ≠ .Starred x p) (he : DE w W X e m) (ht : tyB T sc ts es = true) (hz : ts.length ≤ sizeMax) :
    DE w W X (.Call (.Name "isinstance" p) [e, .Tuple es j q] [] pos) (fun env => do let x ← m env; isinV ts x) := by
  obtain ⟨te, pe, qe⟩ := he.ex
  obtain ⟨⟨tt, pt, qt⟩, k1, k2, k3, k4⟩ := ty_names G ts _ ht
  refine ⟨_, pe_callB call_isiT (gl_of G hg) (G.blts _ hm) (by decide +kernel) (pa_cons pe (pa_cons (pe_tup pt) pa_nil rfl) (star_cons hs)) (by decide +kernel) (by decide +kernel) (star_cons hs) rfl, fun ρ σ H env S Q re rs p => ?_⟩
  refine qe ρ σ H env S _ re rs (p.bind.imp fun x H1 ⟨u, ρ1, S1, e1, r1, s1, p1⟩ => qt σ H1 _ ⟨by rw [tyVs_len, ← size_eq]; exact hz, fun tp hp => ?_⟩)
  have E := Ext.new (o := .tup (tyVs w ts)) s1 hp
  obtain ⟨tv, h1, h2⟩ := ty_at G (s1.new (o := .tup (tyVs w ts)) hp) (r1.ext E)
  refine ⟨x, tp, tyVs w ts, tv, tyUs w ts, _, rfl, upd_same, k1, h2, by rw [G.hK]; exact k4 _ _ h1, p1 _ _ _ E (by simp [RepV]) (s1.new hp)⟩
end
end Pd

/-! Pd: calls of the text's own defs by keywords. -/
namespace Pd
open PySem PySem.Spec L2

section
variable {w : Wd} {T : Tab} {fuel k : Nat} {N : List Str} {ow sc : Scope} {W : WX} {X : Cx}
theorem run_ownK {j : Nat} {f : Addr} {fd : FuncData} {ps ks : List Str} {g : List Value → List Value → List Value} {gV : List V → List V → List V} {sp : Sp} {pins : List (Addr × Obj)} {σ : L2.St} {H : Hp} {s : Shared} {Q : VK} {us ws : List Value} {vs zs : List V}
    (F : FnG X.prog X.w X.K X.mg X.base j f fd ps sp) (hr : Room j X.A) (hg : X.A.guards = some []) (hb : KBinds X.K fd ps ks g gV) (tk : Takes X W) (I : Inv X pins σ H s) (r : Vals vs us) (rz : Vals zs ws)
    (h : sp (gV vs zs) H Q (fun c d H' => W c d σ H')) : wpAny (model X.prog X.w) X.A (call (.ref f) us (ks.zip ws)) (EP X pins σ Q) X.xe s := by
  have r2 := hb.rel r rz
  have hl : (g us ws).length = ps.length := by rw [← r2.length]; exact F.len _ _ _ _ h
  refine wpAny_call (codeAny_mono (F.run X.A X.stack s H ⟨us, ks.zip ws⟩ _ _ Q _ hr hg I.env0 (hb.to s us ws I.kIn hl) r2 h) fun res s' hq => ?_)
  cases res with
  | error e => exact tk e s' (XE.of_call I (fun _ _ _ z => z) hq)
  | ok fl =>
    cases fl with
    | ret u => exact I.after hq
    | next => exact hq.elim
    | brk => exact hq.elim
    | cont => exact hq.elim
def tOwnK (W : WX) (sp : Sp) (gV : List V → List V → List V) (t u : TA) : TE := fun σ H Q => t σ H fun vs H1 => u σ H1 fun zs H2 => sp (gV vs zs) H2 Q (fun c d H' => W c d σ H')
theorem kw_names {kws : List Keyword} {ks : List Str} {env : PySem.Env} {pos : Pos} (h : kws.map kwN = ks.map some) : (backToKw pos (keywordEach kws env)).all (·.1.isSome) = true ∧ (backToKw pos (keywordEach kws env)).filterMap (·.1) = ks ∧ (backToKw pos (keywordEach kws env)).any (·.1.isNone) = false := by
  induction kws generalizing ks with
  | nil =>
    cases ks with
    | nil => exact ⟨rfl, rfl, rfl⟩
    | cons _ _ => cases h
  | cons kw kws ih =>
    cases ks with
    | nil => cases h
    | cons x ks =>
      obtain ⟨n, e, p⟩ := kw
      injection h with h1 h2
      have h1 : n = some x := h1
      subst h1
      obtain ⟨a, b, c⟩ := ih h2
      refine ⟨?_, ?_, ?_⟩
      · show (true && (backToKw pos (keywordEach kws env)).all (·.1.isSome)) = true
        rw [a]; rfl
      · show x :: (backToKw pos (keywordEach kws env)).filterMap (·.1) = _
        rw [b]
      · show (false || (backToKw pos (keywordEach kws env)).any (·.1.isNone)) = false
        rw [c]; rfl
theorem kw_run {j : Nat} {f : Addr} {fd : FuncData} {ps ks : List Str} {g : List Value → List Value → List Value} {gV : List V → List V → List V} {sp : Sp} {pos : Pos} {kws : List Keyword} {u : TA} {pins : List (Addr × Obj)} {σ : L2.St} {Q : VK}
    (F : FnG X.prog X.w X.K X.mg X.base j f fd ps sp) (hr : Room j X.A) (hg : X.A.guards = some []) (hb : KBinds X.K fd ps ks g gV) (tk : Takes X W) (hkw : PK X kws u) (hks : kws.map kwN = ks.map some)
    (s1 : Shared) (H1 : Hp) (us : List Value) (vs : List V) (I1 : Inv X pins σ H1 s1) (r : Vals vs us) (q : u σ H1 (fun zs H2 => sp (gV vs zs) H2 Q (fun c d H' => W c d σ H'))) :
    wpAny (model X.prog X.w) X.A (evalAll ((backToKw pos (keywordEach kws X.env)).map (·.2))) (fun ws s2 => X.K.In s2.heap ∧ wpAny (model X.prog X.w) X.A (call (.ref f) ([] ++ us) (((backToKw pos (keywordEach kws X.env)).filterMap (·.1)).zip ws)) (EP X pins σ Q) X.xe s2) X.xe s1 :=
  thn (hkw.run pos pins s1 σ H1 _ I1 q) fun ws s2 ⟨zs, H2, I2, rz, q2⟩ => ⟨I2.kIn, by rw [(kw_names (env := X.env) (pos := pos) hks).2.1]; exact run_ownK F hr hg hb tk I2 r rz q2⟩
theorem pe_ownK {j : Nat} {f : Addr} {fd : FuncData} {ps ks : List Str} {g : List Value → List Value → List Value} {gV : List V → List V → List V} {sp : Sp} {x : Str} {p pos : Pos} {e : Expr} {es : List Expr} {kws : List Keyword} {t u : TA}
    (F : FnG X.prog X.w X.K X.mg X.base j f fd ps sp) (hr : Room j X.A) (hg : X.A.guards = some []) (hb : KBinds X.K fd ps ks g gV) (tk : Takes X W)
    (hx : Gl X x) (hm : X.mg x = some (.ref f)) (hk : PySem.W.keepIn X.K (.ref f) = true) (hdb : (x == ("__debug__" : Str)) = false) (ha : PA X (e :: es) t) (hkw : PK X kws u) (hn : NoStar (e :: es)) (hks : kws.map kwN = ks.map some) :
    PE X (.Call (.Name x p) (e :: es) kws pos) (tOwnK W sp gV t u) := by
  refine ⟨fun pins s σ H Q I h => wpAny_Call_Name_kw (ld_glob I hx hm ?_ hdb)⟩
  obtain ⟨n1, n2, n3⟩ := kw_names (env := X.env) (pos := pos) hks
  exact PySem.W.callWith_KW (h₀ := X.base) I.ok.mod.kin hk n1 (thn (ha.run pos pins s σ H _ I h) fun us s1 ⟨vs, H1, I1, r, q⟩ => kw_run F hr hg hb tk hkw hks s1 H1 us vs I1 r q) (by rw [n3, NoStar.any hn]; rfl) (star_cons (hn e List.mem_cons_self))
theorem pe_ownK0 {j : Nat} {f : Addr} {fd : FuncData} {ps ks : List Str} {g : List Value → List Value → List Value} {gV : List V → List V → List V} {sp : Sp} {x : Str} {p pos : Pos} {kws : List Keyword} {u : TA}
    (F : FnG X.prog X.w X.K X.mg X.base j f fd ps sp) (hr : Room j X.A) (hg : X.A.guards = some []) (hb : KBinds X.K fd ps ks g gV) (tk : Takes X W)
    (hx : Gl X x) (hm : X.mg x = some (.ref f)) (hk : PySem.W.keepIn X.K (.ref f) = true) (hdb : (x == ("__debug__" : Str)) = false) (hkw : PK X kws u) (hks : kws.map kwN = ks.map some) :
    PE X (.Call (.Name x p) [] kws pos) (tOwnK W sp gV tNil u) := by
  refine ⟨fun pins s σ H Q I h => wpAny_Call_Name_kw (ld_glob I hx hm ?_ hdb)⟩
  obtain ⟨n1, n2, n3⟩ := kw_names (env := X.env) (pos := pos) hks
  exact PySem.W.callWith_KW0 (h₀ := X.base) I.ok.mod.kin hk n1 (kw_run F hr hg hb tk hkw hks s H [] [] I .nil h) (by rw [n3]; rfl)

/-- keyword arguments -/
structure DK (w : Wd) (W : WX) (X : Cx) (kws : List Keyword) (m : Env → M (List Val)) : Prop where
  ex : ∃ t, PK X kws t ∧ ∀ ρ σ H env S (Q : List V → Hp → Prop), RepE w ρ H env σ → RepS w ρ H S → Post w W σ (RepVs w) ρ H (m env S) Q → t σ H Q
theorem dk_nil : DK w W X [] (fun _ => pure []) := ⟨_, pk_nil, fun ρ σ H env S Q re rs p => p.ok (by simp [RepVs]) rs⟩
theorem dk_cons {nm : Option Str} {e : Expr} {kp : Pos} {kws : List Keyword} {m : Env → M Val} {ms : Env → M (List Val)} (h : DE w W X e m) (hs : DK w W X kws ms) : DK w W X (⟨nm, e, kp⟩ :: kws) (fun env => do let x ← m env; let xs ← ms env; pure (x :: xs)) := by
  obtain ⟨t, pt, q⟩ := h.ex
  obtain ⟨u, pu, qu⟩ := hs.ex
  refine ⟨_, pk_cons pt pu, fun ρ σ H env S Q re rs p => ?_⟩
  refine q ρ σ H env S _ re rs (p.bind.imp fun x H1 ⟨v, ρ1, S1, e1, r1, s1, p1⟩ => ?_)
  refine qu ρ1 σ H1 env S1 _ (re.ext e1) s1 (p1.bind.imp fun xs H2 ⟨vs, ρ2, S2, e2, r2, s2, p2⟩ => ?_)
  exact p2.ok (by simp only [RepVs]; exact ⟨x, xs, rfl, r1.ext e2, r2⟩) s2
theorem rep_perm {ρ : List Addr} {H : Hp} {l : List Val} {us : List V} (r : RepVs w ρ H l us) : ∀ {is : List Nat} {ys : List Val}, optMap (fun i => l[i]?) is = some ys → RepVs w ρ H ys (is.filterMap fun i => us[i]?)
  | [], ys, h => by
    simp only [optMap, Option.some.injEq] at h
    subst h
    simp [RepVs]
  | i :: is, ys, h => by
    unfold optMap at h
    split at h
    · rename_i v ws hv hw
      have h := Option.some.inj h
      subst h
      obtain ⟨u, h1, h2⟩ := r.get hv
      rw [List.filterMap_cons, h1]
      simp only [RepVs]
      exact ⟨u, _, rfl, h2, rep_perm r hw⟩
    · cases h
theorem rep_kw {ρ : List Addr} {H : Hp} {q : Nat} {v : KW} (hq : T.kws[q]? = some v) {xs ys zs : List Val} {us ws : List V} (r : RepVs w ρ H xs us) (r' : RepVs w ρ H ys ws) (h : T.kwV q xs ys = some zs) : RepVs w ρ H zs (permA v us ws) := by
  unfold Tab.kwV at h
  rw [hq] at h
  dsimp only at h
  split at h
  · rename_i c
    unfold permA
    rw [if_pos (by rw [← r.length, ← r'.length] at c; exact c)]
    exact rep_perm (r.append r') h
  · cases h
theorem de_callK (G : Good w T fuel k N ow sc W X) {f q : Nat} (hni : T.ini f = false) {x : Str} {es : List Expr} {kws : List Keyword} {ms mk : Env → M (List Val)} {p pos : Pos} {d : FnD} (hd : T.fns[f]? = some d) (hx : d.name = x) (hg : glB sc x = true) (hdb : notDbg x = true) (hkb : kwB T q x es kws = true)
    (hn : NoStar es) (hs : DA w W X es ms) (h0 : es = [] → ms = fun _ => pure []) (hk : DK w W X kws mk) :
    DE w W X (.Call (.Name x p) es kws pos) (fun env => do let xs ← ms env; let ys ← mk env; let zs ← ofOpt (T.kwV q xs ys); callF T fuel k f zs) := by
  obtain ⟨t, pt, qt⟩ := hs.ex
  obtain ⟨u, pu, qu⟩ := hk.ex
  obtain ⟨a, fd, h0, F, _⟩ := (G.fns f d hd).ex
  obtain ⟨hm, hka, hb, kb⟩ := h0 hni
  unfold kwB at hkb
  split at hkb
  · rename_i v hv
    simp only [Bool.and_eq_true, decide_eq_true_eq] at hkb
    obtain ⟨⟨⟨k1, k2⟩, k3⟩, k4⟩ := hkb
    have KB := kb q v hv (by rw [k1, hx])
    rw [hx] at hm
    have F' : FnG X.prog X.w X.K X.mg X.base (2 * k + 1) a fd (d.N.take d.np) (spOf w T fuel k f) := by rw [G.hK]; exact F
    have KB' : KBinds X.K fd (d.N.take d.np) v.ks (permA v) (permA v) := by rw [G.hK]; exact KB
    have hka' : PySem.W.keepIn X.K (.ref a) = true := by rw [G.hK]; exact hka
    have fin : ∀ (ρ1 : List Addr) (σ : L2.St) (H1 : Hp) (env : Env) (S1 : Store) (Q : VK) (xs : List Val) (us : List V), RepE w ρ1 H1 env σ → RepS w ρ1 H1 S1 → RepVs w ρ1 H1 xs us →
        Post w W σ (RepV w) ρ1 H1 ((do let ys ← mk env; let zs ← ofOpt (T.kwV q xs ys); callF T fuel k f zs : M Val) S1) Q → u σ H1 (fun zs H2 => spOf w T fuel k f (permA v us zs) H2 Q (fun c d H' => W c d σ H')) := by
      intro ρ1 σ H1 env S1 Q xs us re s1 r1 p1
      refine qu ρ1 σ H1 env S1 _ re s1 (p1.bind.imp fun ws H2 ⟨ys, ρ2, S2, e2, r2, s2, p2⟩ => ?_)
      unfold ofOpt at p2
      cases z : T.kwV q xs ys with
      | none => rw [z] at p2; exact p2.elim
      | some zs =>
        rw [z] at p2
        exact own_ok hd (rep_kw hv (r1.ext e2) r2 z) s2 p2
    cases es with
    | nil =>
      refine ⟨_, pe_ownK0 (W := W) F' (G.room.mono (by omega)) G.grd KB' G.tk (gl_of G hg) hm hka' (dbg_of hdb).1 pu k3, fun ρ σ H env S Q re rs p => ?_⟩
      rw [h0 rfl] at p
      exact fin ρ σ H env S Q [] [] re rs (by simp [RepVs]) p
    | cons e es =>
      refine ⟨_, pe_ownK (W := W) F' (G.room.mono (by omega)) G.grd KB' G.tk (gl_of G hg) hm hka' (dbg_of hdb).1 pt pu hn k3, fun ρ σ H env S Q re rs p => ?_⟩
      refine qt ρ σ H env S _ re rs (p.bind.imp fun xs H1 ⟨us, ρ1, S1, e1, r1, s1, p1⟩ => ?_)
      exact fin ρ1 σ H1 env S1 Q us xs (re.ext e1) s1 r1 p1
  · cases hkb
end
end Pd

/-! Pd: an instance of an own class made by a call. -/
namespace Pd
open PySem PySem.Spec L2
/-! ### what was made within goes -/
section
variable {w : Wd} {ρ more : List Addr} {H : Hp}
theorem out_left {a : Addr} (h : a ∉ ρ ++ more) : a ∉ ρ := fun z => h (List.mem_append_left _ z)
theorem StT.cut {a : Addr} {vs : List V} (h : StT w (ρ ++ more) H a vs) : StT w ρ H a vs := by
  rcases h with ⟨n, h⟩ | h
  · exact .inl ⟨out_left n, h⟩
  · exact .inr h
theorem StL.cut {a : Addr} {vs : List V} (h : StL w (ρ ++ more) H a vs) : StL w ρ H a vs := by
  rcases h with ⟨n, h⟩ | h
  · exact .inl ⟨out_left n, h⟩
  · exact .inr h
mutual
theorem RepV.cut : ∀ (x : Val) (v : V), refsLt ρ.length x = true → RepV w (ρ ++ more) H x v → RepV w ρ H x v
  | .non, _, _, h => by simpa only [RepV] using h
  | .bl _, _, _, h => by simpa only [RepV] using h
  | .int _, _, _, h => by simpa only [RepV] using h
  | .str _, _, _, h => by simpa only [RepV] using h
  | .tup xs, v, c, h => by
    simp only [RepV] at h ⊢
    simp only [refsLt] at c
    obtain ⟨a, vs, h1, h2, h3⟩ := h
    exact ⟨a, vs, h1, h2.cut, RepVs.cut xs vs c h3⟩
  | .ins k fs, v, c, h => by
    simp only [RepV] at h ⊢
    simp only [refsLt] at c
    obtain ⟨p, C, dx, ns, vs, h1, h2, h3, h4, h5, h6⟩ := h
    exact ⟨p, C, dx, ns, vs, h1, h2, out_left h3, h4, h5, RepVs.cut fs vs c h6⟩
  | .scr ns, v, _, h => by
    simp only [RepV] at h ⊢
    obtain ⟨a, h1, h2⟩ := h
    exact ⟨a, h1, h2.cut⟩
  | .ref i, v, c, h => by
    simp only [RepV] at h ⊢
    simp only [refsLt, decide_eq_true_eq] at c
    obtain ⟨a, h1, h2⟩ := h
    exact ⟨a, h1, by rw [List.getElem?_append_left c] at h2; exact h2⟩
theorem RepVs.cut : ∀ (xs : List Val) (vs : List V), refsLtL ρ.length xs = true → RepVs w (ρ ++ more) H xs vs → RepVs w ρ H xs vs
  | [], _, _, h => by simpa only [RepVs] using h
  | x :: xs, vs, c, h => by
    simp only [RepVs] at h ⊢
    simp only [refsLtL, Bool.and_eq_true] at c
    obtain ⟨v, r, h1, h2, h3⟩ := h
    exact ⟨v, r, h1, RepV.cut x v c.1 h2, RepVs.cut xs r c.2 h3⟩
end
theorem RepKV.cut {κ : Type} : ∀ (xs : List (κ × Val)) (vs : List (κ × V)), refsLtL ρ.length (xs.map (·.2)) = true → RepKV w (ρ ++ more) H xs vs → RepKV w ρ H xs vs
  | [], _, _, h => by simpa only [RepKV] using h
  | (k, x) :: xs, vs, c, h => by
    simp only [RepKV] at h ⊢
    simp only [List.map_cons, refsLtL, Bool.and_eq_true] at c
    obtain ⟨v, r, h1, h2, h3⟩ := h
    exact ⟨v, r, h1, RepV.cut x v c.1 h2, RepKV.cut xs r c.2 h3⟩
theorem RepC.cut : ∀ (c : Cell) (o : HO), cellLt ρ.length c = true → RepC w (ρ ++ more) H c o → RepC w ρ H c o
  | .lst xs, o, c, ⟨vs, h1, h2⟩ => ⟨vs, h1, RepVs.cut xs vs c h2⟩
  | .dct xs, o, c, ⟨vs, h1, h2⟩ => ⟨vs, h1, RepKV.cut xs vs c h2⟩
  | .dtt xs, o, c, ⟨vs, h1, h2⟩ => ⟨vs, h1, RepKV.cut xs vs c h2⟩
  | .obj k fs, o, c, ⟨C, dx, ns, vs, h1, h2, h3⟩ => ⟨C, dx, ns, vs, h1, h2, RepKV.cut fs vs c h3⟩
theorem RepS.cut {S : Store} (h : RepS w (ρ ++ more) H S) (c : (S.take ρ.length).all (cellLt ρ.length) = true) : RepS w ρ H (S.take ρ.length) := by
  have hl := h.len
  rw [List.length_append] at hl
  refine ⟨by rw [List.length_take]; omega, (List.nodup_append.mp h.nd).1, fun i a k h1 h2 => ?_⟩
  have hi : i < ρ.length := (List.getElem?_eq_some_iff.mp h1).1
  have m := List.mem_of_getElem? h2
  rw [List.getElem?_take_of_lt hi] at h2
  obtain ⟨o, e, q⟩ := h.cell i a k (by rw [List.getElem?_append_left hi]; exact h1) h2
  exact ⟨o, e, RepC.cut k o (List.all_eq_true.mp c k m) q⟩
theorem swept_ok {ρ' : List Addr} {H' : Hp} {S : Store} {v : Val} {x : V} (e : Ext ρ H ρ' H') (rv : RepV w ρ' H' v x) (rs : RepS w ρ' H' S) :
    ∃ ρ2, Ext ρ H ρ2 H' ∧ RepV w ρ2 H' v x ∧ RepS w ρ2 H' (swept ρ.length v S) := by
  unfold swept
  split
  · rename_i c
    simp only [Bool.and_eq_true] at c
    obtain ⟨m, rfl, hm⟩ := e.pre
    exact ⟨ρ, ⟨⟨[], by simp, fun _ z => nomatch z⟩, e.oth, e.mono⟩, RepV.cut v x c.1 rv, rs.cut c.2⟩
  · exact ⟨ρ', e, rv, rs⟩
end

section
variable {X : Cx} {W : WX}
theorem run_mk {j n : Nat} {f C : Addr} {fd : FuncData} {ps ks : List Str} {g : List Value → List Value → List Value} {gV : List V → List V → List V} {sp : Sp} {pins : List (Addr × Obj)} {σ : L2.St} {H : Hp} {s : Shared} {Q : VK} {us ws : List Value} {vs zs : List V}
    (M : Mk X.K C f) (F : FnG X.prog X.w X.K X.mg X.base j f fd ps sp) (hr : Room (j + 1) X.A) (hg : X.A.guards = some []) (hb : KBn X.K fd ps (n + 1) ks g gV) (tk : Takes X W) (I : Inv X pins σ H s) (r : Vals vs us) (rz : Vals zs ws) (l1 : vs.length = n) (l2 : zs.length = ks.length)
    (h : ∀ x dx : Addr, H x = none → H dx = none → dx ≠ x → sp (gV (.ref x :: vs) zs) (upd (upd H dx (.own x)) x (.ins C dx [])) (fun v H2 => v = .non ∧ Q (.ref x) H2) (fun c d H' => W c d σ H')) :
    wpAny (model X.prog X.w) X.A (call (.ref C) us (ks.zip ws)) (EP X pins σ Q) X.xe s := by
  have hq := h (s.heap.objs.size + 1) s.heap.objs.size (HOk.fresh I.hok (Nat.le_succ _)) (HOk.fresh I.hok (Nat.le_refl _)) (Nat.ne_of_lt (Nat.lt_succ_self _))
  have I2 := Inv.made I (C := C)
  have r1 : Vals (V.ref (s.heap.objs.size + 1) :: vs) (Value.ref (s.heap.objs.size + 1) :: us) := Paired.cons rfl r
  have r2 := hb.rel r1 rz
  have n1 : (Value.ref (s.heap.objs.size + 1) :: us).length = n + 1 := by rw [List.length_cons, ← Vals.length r, l1]
  refine wpAny_call (make_map (Inv.kIn I) M.makes M.init (beq_iff_eq.mp M.fn) (codeAny_mono (F.run (X.A.under (Code.builtin "type.__call__" { pos := Value.ref C :: us, kw := ks.zip ws })) X.stack _ _ _ _ _ (fun v H2 => v = V.non ∧ Q (V.ref (s.heap.objs.size + 1)) H2) _ (Room.make hr C us (ks.zip ws)) hg (Env0.make (Inv.env0 I2) C us (ks.zip ws)) (hb.to _ (Value.ref (s.heap.objs.size + 1) :: us) ws (Inv.kIn I2) n1 (Eq.trans (Eq.symm (Vals.length rz)) l2)) r2 hq) fun res s' hq' => ?_))
  cases res with
  | error e => exact tk e s' (XE.of_call I2 (fun _ _ _ z => z) hq')
  | ok fl =>
    cases fl with
    | ret u =>
      obtain ⟨v, H', I3, rv, rfl, q3⟩ := Inv.after I2 hq'
      exact ⟨rv, V.ref (s.heap.objs.size + 1), H', I3, rfl, q3⟩
    | next => exact hq'.elim
    | brk => exact hq'.elim
    | cont => exact hq'.elim

def tMk (W : WX) (C : Addr) (n m : Nat) (sp : Sp) (gV : List V → List V → List V) (t u : TA) : TE := fun σ H Q => t σ H fun vs H1 => u σ H1 fun zs H2 => vs.length = n ∧ zs.length = m ∧
  ∀ x dx : Addr, H2 x = none → H2 dx = none → dx ≠ x → sp (gV (.ref x :: vs) zs) (upd (upd H2 dx (.own x)) x (.ins C dx [])) (fun v H3 => v = .non ∧ Q (.ref x) H3) (fun c d H' => W c d σ H')
theorem mk_run {j n : Nat} {f C : Addr} {fd : FuncData} {ps ks : List Str} {g : List Value → List Value → List Value} {gV : List V → List V → List V} {sp : Sp} {pos : Pos} {kws : List Keyword} {u : TA} {pins : List (Addr × Obj)} {σ : L2.St} {Q : VK}
    (M : Mk X.K C f) (F : FnG X.prog X.w X.K X.mg X.base j f fd ps sp) (hr : Room (j + 1) X.A) (hg : X.A.guards = some []) (hb : KBn X.K fd ps (n + 1) ks g gV) (tk : Takes X W) (hkw : PK X kws u) (hks : kws.map kwN = ks.map some)
    (s1 : Shared) (H1 : Hp) (us : List Value) (vs : List V) (I1 : Inv X pins σ H1 s1) (r : Vals vs us)
    (q : u σ H1 (fun zs H2 => vs.length = n ∧ zs.length = ks.length ∧ ∀ x dx : Addr, H2 x = none → H2 dx = none → dx ≠ x → sp (gV (.ref x :: vs) zs) (upd (upd H2 dx (.own x)) x (.ins C dx [])) (fun v H3 => v = .non ∧ Q (.ref x) H3) (fun c d H' => W c d σ H'))) :
    wpAny (model X.prog X.w) X.A (evalAll ((backToKw pos (keywordEach kws X.env)).map (·.2))) (fun ws s2 => X.K.In s2.heap ∧ wpAny (model X.prog X.w) X.A (call (.ref C) ([] ++ us) (((backToKw pos (keywordEach kws X.env)).filterMap (·.1)).zip ws)) (EP X pins σ Q) X.xe s2) X.xe s1 :=
  thn (hkw.run pos pins s1 σ H1 _ I1 q) fun ws s2 ⟨zs, H2, I2, rz, l1, l2, q2⟩ => ⟨I2.kIn, by rw [(kw_names (env := X.env) (pos := pos) hks).2.1]; exact run_mk M F hr hg hb tk I2 r rz l1 l2 q2⟩
theorem pe_mk {j n : Nat} {f C : Addr} {fd : FuncData} {ps ks : List Str} {g : List Value → List Value → List Value} {gV : List V → List V → List V} {sp : Sp} {x : Str} {p pos : Pos} {e : Expr} {es : List Expr} {kws : List Keyword} {t u : TA}
    (M : Mk X.K C f) (F : FnG X.prog X.w X.K X.mg X.base j f fd ps sp) (hr : Room (j + 1) X.A) (hg : X.A.guards = some []) (hb : KBn X.K fd ps (n + 1) ks g gV) (tk : Takes X W)
    (hx : Gl X x) (hm : X.mg x = some (.ref C)) (hdb : (x == ("__debug__" : Str)) = false) (ha : PA X (e :: es) t) (hkw : PK X kws u) (hn : NoStar (e :: es)) (hks : kws.map kwN = ks.map some) :
    PE X (.Call (.Name x p) (e :: es) kws pos) (tMk W C n ks.length sp gV t u) := by
  refine ⟨fun pins s σ H Q I h => wpAny_Call_Name_kw (ld_glob I hx hm ?_ hdb)⟩
  obtain ⟨n1, n2, n3⟩ := kw_names (env := X.env) (pos := pos) hks
  exact PySem.W.callWith_KW (h₀ := X.base) I.ok.mod.kin M.kp n1 (thn (ha.run pos pins s σ H _ I h) fun us s1 ⟨vs, H1, I1, r, q⟩ => mk_run M F hr hg hb tk hkw hks s1 H1 us vs I1 r q) (by rw [n3, NoStar.any hn]; rfl) (star_cons (hn e List.mem_cons_self))
theorem pe_mk0 {j : Nat} {f C : Addr} {fd : FuncData} {ps ks : List Str} {g : List Value → List Value → List Value} {gV : List V → List V → List V} {sp : Sp} {x : Str} {p pos : Pos} {kws : List Keyword} {u : TA}
    (M : Mk X.K C f) (F : FnG X.prog X.w X.K X.mg X.base j f fd ps sp) (hr : Room (j + 1) X.A) (hg : X.A.guards = some []) (hb : KBn X.K fd ps 1 ks g gV) (tk : Takes X W)
    (hx : Gl X x) (hm : X.mg x = some (.ref C)) (hdb : (x == ("__debug__" : Str)) = false) (hkw : PK X kws u) (hks : kws.map kwN = ks.map some) :
    PE X (.Call (.Name x p) [] kws pos) (tMk W C 0 ks.length sp gV tNil u) := by
  refine ⟨fun pins s σ H Q I h => wpAny_Call_Name_kw (ld_glob I hx hm ?_ hdb)⟩
  obtain ⟨n1, n2, n3⟩ := kw_names (env := X.env) (pos := pos) hks
  exact PySem.W.callWith_KW0 (h₀ := X.base) I.ok.mod.kin M.kp n1 (mk_run (n := 0) M F hr hg hb tk hkw hks s H [] [] I .nil h) (by rw [n3]; rfl)
end
/-! ### what is made of the new thing -/
section
variable {w : Wd} {ρ : List Addr} {H : Hp}
theorem repKV_two {κ : Type} : ∀ {fs : List (κ × Val)} {vs : List (κ × V)}, RepKV w ρ H fs vs → vs.map (·.1) = fs.map (·.1) ∧ RepVs w ρ H (fs.map (·.2)) (vs.map (·.2))
  | [], vs, h => by
    simp only [RepKV] at h
    subst h
    simp [RepVs]
  | (k, x) :: fs, vs, h => by
    simp only [RepKV] at h
    obtain ⟨v, r, rfl, h1, h2⟩ := h
    obtain ⟨i1, i2⟩ := repKV_two h2
    refine ⟨by simp [i1], ?_⟩
    simp only [List.map_cons, RepVs]
    exact ⟨v, _, rfl, h1, i2⟩
theorem zip_two {α β : Type} : ∀ l : List (α × β), (l.map (·.1)).zip (l.map (·.2)) = l
  | [] => rfl
  | (a, b) :: l => by simp [zip_two l]
mutual
theorem RepV.lt : ∀ (x : Val) (v : V), RepV w ρ H x v → refsLt ρ.length x = true
  | .non, _, _ => rfl
  | .bl _, _, _ => rfl
  | .int _, _, _ => rfl
  | .str _, _, _ => rfl
  | .tup xs, v, h => by
    simp only [RepV] at h
    simp only [refsLt]
    obtain ⟨a, vs, h1, h2, h3⟩ := h
    exact RepVs.lt xs vs h3
  | .ins k fs, v, h => by
    simp only [RepV] at h
    simp only [refsLt]
    obtain ⟨p, C, dx, ns, vs, h1, h2, h3, h4, h5, h6⟩ := h
    exact RepVs.lt fs vs h6
  | .scr ns, _, _ => rfl
  | .ref i, v, h => by
    simp only [RepV] at h
    simp only [refsLt, decide_eq_true_eq]
    obtain ⟨a, h1, h2⟩ := h
    exact (List.getElem?_eq_some_iff.mp h2).1
theorem RepVs.lt : ∀ (xs : List Val) (vs : List V), RepVs w ρ H xs vs → refsLtL ρ.length xs = true
  | [], _, _ => rfl
  | x :: xs, vs, h => by
    simp only [RepVs] at h
    simp only [refsLtL, Bool.and_eq_true]
    obtain ⟨v, r, h1, h2, h3⟩ := h
    exact ⟨RepV.lt x v h2, RepVs.lt xs r h3⟩
end
theorem RepS.lt {S : Store} (r : RepS w ρ H S) : S.all (cellLt ρ.length) = true := by
  rw [List.all_eq_true]
  intro c hc
  obtain ⟨i, hi⟩ := List.getElem?_of_mem hc
  have hl : i < ρ.length := by rw [r.len]; exact (List.getElem?_eq_some_iff.mp hi).1
  obtain ⟨o, _, q⟩ := r.cell i _ c (List.getElem?_eq_getElem hl) hi
  cases c with
  | lst xs =>
    obtain ⟨vs, _, h2⟩ := q
    exact RepVs.lt xs vs h2
  | dct kvs =>
    obtain ⟨vs, _, h2⟩ := q
    exact RepVs.lt _ _ (repKV_two h2).2
  | dtt kvs =>
    obtain ⟨vs, _, h2⟩ := q
    exact RepVs.lt _ _ (repKV_two h2).2
  | obj c fs =>
    obtain ⟨C, dx, ns, vs, _, _, h2⟩ := q
    exact RepVs.lt _ _ (repKV_two h2).2
theorem froze_ok {x : Addr} {ρ' : List Addr} {H0 H' : Hp} {S S' S2 : Store} {flds : List Str} {c : Nat} {C : Addr} {v : Val} (rs0 : RepS w ρ H0 S) (hc : w.cls c = some (C, flds)) (hx : x ∉ ρ) (e0 : Ext ρ H0 (ρ ++ [x]) H) (e : Ext (ρ ++ [x]) H ρ' H') (rs : RepS w ρ' H' S') (h : froze flds c S S' = .ok v S2) :
    Ext ρ H0 ρ H' ∧ RepV w ρ H' v (.ref x) ∧ RepS w ρ H' S2 := by
  unfold froze at h
  rw [← rs0.len] at h
  split at h
  · rename_i c' fs hs
    split at h
    · rename_i hq
      simp only [Bool.and_eq_true, decide_eq_true_eq] at hq
      obtain ⟨⟨⟨rfl, hk⟩, hr⟩, hsame⟩ := hq
      have hsame := sEq_ok hsame
      have hcell : (S'.take ρ.length).all (cellLt ρ.length) = true := by rw [hsame]; exact rs0.lt
      injection h with h1 h2
      subst h1
      subst h2
      obtain ⟨m, hm, _⟩ := e.pre
      have hρ : ρ' = ρ ++ ([x] ++ m) := by rw [hm, List.append_assoc]
      have hat : ρ'[ρ.length]? = some x := by rw [hρ, List.getElem?_append_right (Nat.le_refl _)]; simp
      obtain ⟨o, h1, h2⟩ := rs.cell _ _ _ hat hs
      obtain ⟨C', dx, ns, vs, rfl, h3, h4⟩ := h2
      rw [hc] at h3
      cases h3
      obtain ⟨k1, k2⟩ := repKV_two h4
      rw [hρ] at k2 rs
      have e' := e0.trans e
      refine ⟨⟨⟨[], by simp, fun _ z => nomatch z⟩, e'.oth, e'.mono⟩, ?_, by rw [← hsame]; exact rs.cut hcell⟩
      simp only [RepV]
      refine ⟨x, C, dx, flds, vs.map (·.2), rfl, hc, hx, ?_, ?_, RepVs.cut _ _ hr k2⟩
      · rw [h1, ← hk, ← k1, zip_two]
      · rw [← hk, ← k1, List.length_map, List.length_map]
    · cases h
  · cases h
end
section
variable {w : Wd} {T : Tab} {fuel k : Nat} {N : List Str} {ow sc : Scope} {W : WX} {X : Cx}
theorem rep_lit {ρ : List Addr} {H : Hp} (l : Lit) : RepV w ρ H l.val (litV l) := by cases l <;> simp [Lit.val, litV, RepV]
theorem rep_permM {ρ : List Addr} {H : Hp} {l : List Val} {us : List V} (r : RepVs w ρ H l us) : ∀ {is : List (Sum Nat Lit)} {ys : List Val}, optMap (fun s => match s with | .inl i => l[i]? | .inr l => some l.val) is = some ys → RepVs w ρ H ys (is.filterMap fun s => match s with | .inl i => us[i]? | .inr l => some (litV l))
  | [], ys, h => by
    simp only [optMap, Option.some.injEq] at h
    subst h
    simp [RepVs]
  | .inl i :: is, ys, h => by
    unfold optMap at h
    split at h
    · rename_i v ws hv hw
      have h := Option.some.inj h
      subst h
      obtain ⟨u, h1, h2⟩ := r.get hv
      rw [List.filterMap_cons]
      simp only [h1, RepVs]
      exact ⟨u, _, rfl, h2, rep_permM r hw⟩
    · cases h
  | .inr l0 :: is, ys, h => by
    unfold optMap at h
    split at h
    · rename_i v ws hv hw
      have h := Option.some.inj h
      subst h
      have hv : some l0.val = some v := hv
      cases hv
      rw [List.filterMap_cons]
      simp only [RepVs]
      exact ⟨_, _, rfl, rep_lit l0, rep_permM r hw⟩
    · cases h
theorem de_mk (G : Good w T fuel k N ow sc W X) {c q : Nat} {x : Str} {es : List Expr} {kws : List Keyword} {ms mk : Env → M (List Val)} {p pos : Pos} (hd : (T.cs[c]?).map (·.name) = some x) (hg : glB sc x = true) (hdb : notDbg x = true) (hmw : mwB T q c es kws = true)
    (hn : NoStar es) (hs : DA w W X es ms) (h0 : es = [] → ms = fun _ => pure []) (hk : DK w W X kws mk) :
    DE w W X (.Call (.Name x p) es kws pos) (fun env => do let xs ← ms env; let ys ← mk env; let zs ← ofOpt (T.mkwV q c xs ys); mkV T.cs (callF T fuel k) c zs) := by
  obtain ⟨t, pt, qt⟩ := hs.ex
  obtain ⟨u, pu, qu⟩ := hk.ex
  cases hcd : T.cs[c]? with
  | none => rw [hcd] at hd; cases hd
  | some d =>
    rw [hcd] at hd
    have hx : d.name = x := Option.some.inj hd
    obtain ⟨e0, hf, hnp⟩ := G.ca.fn c d hcd
    obtain ⟨a, fd, _, F, hi⟩ := (G.fns d.f e0 hf).ex
    obtain ⟨C, hC, hm, Mm, kb⟩ := (hi c d hcd rfl).ex
    rw [hx] at hm
    unfold mwB at hmw
    split at hmw
    · rename_i v hv
      simp only [Bool.and_eq_true, decide_eq_true_eq] at hmw
      obtain ⟨⟨k1, k2⟩, k3⟩ := hmw
      obtain ⟨g, gV, KB, hgV⟩ := kb q v hv k1
      have F' : FnG X.prog X.w X.K X.mg X.base (2 * k + 1) a fd (e0.N.take e0.np) (spOf w T fuel k d.f) := by rw [G.hK]; exact F
      have KB' : KBn X.K fd (e0.N.take e0.np) (v.pos + 1) v.ks g gV := by rw [G.hK]; exact KB
      have M' : Mk X.K C a := by rw [G.hK]; exact Mm
      have fin : ∀ (ρ1 : List Addr) (σ : L2.St) (H1 : Hp) (env : Env) (S1 : Store) (Q : VK) (xs : List Val) (us : List V), RepE w ρ1 H1 env σ → RepS w ρ1 H1 S1 → RepVs w ρ1 H1 xs us →
          Post w W σ (RepV w) ρ1 H1 ((do let ys ← mk env; let zs ← ofOpt (T.mkwV q c xs ys); mkV T.cs (callF T fuel k) c zs : M Val) S1) Q →
          u σ H1 (fun zs H2 => us.length = v.pos ∧ zs.length = v.ks.length ∧ ∀ x dx : Addr, H2 x = none → H2 dx = none → dx ≠ x → spOf w T fuel k d.f (gV (.ref x :: us) zs) (upd (upd H2 dx (.own x)) x (.ins C dx [])) (fun v H3 => v = .non ∧ Q (.ref x) H3) (fun c d H' => W c d σ H')) := by
        intro ρ1 σ H1 env S1 Q xs us re s1 r1 p1
        refine qu ρ1 σ H1 env S1 _ re s1 (p1.bind.imp fun ws H2 ⟨ys, ρ2, S2, e2, r2, s2, p2⟩ => ?_)
        unfold ofOpt at p2
        cases z : T.mkwV q c xs ys with
        | none => rw [z] at p2; exact p2.elim
        | some zs =>
          rw [z] at p2
          replace p2 : Post w W σ (RepV w) ρ2 H2 (mkV T.cs (callF T fuel k) c zs S2) Q := p2
          unfold Tab.mkwV at z
          rw [hv] at z
          dsimp only at z
          split at z
          · rename_i hz
            have r1' := r1.ext e2
            have hl1 : us.length = v.pos := by rw [r1.length]; exact hz.2.1
            have hl2 : ws.length = v.ks.length := by rw [r2.length]; exact hz.2.2
            refine ⟨hl1, hl2, fun a1 dx hx1 hdx hne => ?_⟩
            rw [hgV _ _ _ hl1 hl2]
            have rz : RepVs w ρ2 H2 zs (v.perm.filterMap fun s => match s with | .inl i => (us ++ ws)[i]? | .inr l => some (litV l)) := rep_permM (r1'.append r2) z
            have E1 : Ext ρ2 H2 ρ2 (upd H2 dx (.own a1)) := Ext.new s2 hdx
            have s3 : RepS w ρ2 (upd H2 dx (.own a1)) S2 := s2.new hdx
            have hx2 : upd H2 dx (.own a1) a1 = none := by rw [upd_ne hne.symm]; exact hx1
            have E2 : Ext ρ2 (upd H2 dx (.own a1)) (ρ2 ++ [a1]) (upd (upd H2 dx (.own a1)) a1 (.ins C dx [])) := Ext.push s3 hx2
            have s4 : RepS w (ρ2 ++ [a1]) (upd (upd H2 dx (.own a1)) a1 (.ins C dx [])) (S2 ++ [.obj c []]) := s3.push hx2 ⟨C, dx, d.flds, [], rfl, hC, by simp [RepKV]⟩
            have E12 := E1.trans E2
            have rargs : RepVs w (ρ2 ++ [a1]) (upd (upd H2 dx (.own a1)) a1 (.ins C dx [])) (.ref S2.length :: zs) (permM v litV (.ref a1 :: us) ws) := by
              unfold permM
              simp only [RepVs]
              refine ⟨_, _, rfl, ?_, rz.ext E12⟩
              simp only [RepV]
              exact ⟨a1, rfl, by rw [← s2.len, List.getElem?_append_right (Nat.le_refl _)]; simp⟩
            unfold mkV at p2
            rw [hcd] at p2
            dsimp only at p2
            have hn0 := s2.none_out hx1
            have hal : (Val.ref S2.length :: zs).length = e0.np := by
              cases k with
              | zero => exact p2.elim
              | succ k' =>
                unfold callF at p2
                rw [hf] at p2
                dsimp only at p2
                by_cases cc : (Val.ref S2.length :: zs).length = e0.np
                · exact cc
                · rw [if_neg cc] at p2; exact p2.elim
            refine ⟨e0, _, _, _, hf, rargs, s4, hal, ?_⟩
            cases zz : callF T fuel k d.f (.ref S2.length :: zs) (S2 ++ [.obj c []]) with
            | bad => rw [zz] at p2; exact p2.elim
            | exc y S' =>
              rw [zz] at p2
              exact fun c' d' ρ' H' x1 x2 x3 => p2 c' d' ρ' H' (E12.trans x1) x2 x3
            | ok y S' =>
              rw [zz] at p2
              intro xv ρ' H' x1 x2 x3
              cases y with
              | non =>
                refine ⟨by simpa only [RepV] using x2, ?_⟩
                replace p2 : Post w W σ (RepV w) ρ2 H2 (froze d.flds c S2 S') Q := p2
                cases zf : froze d.flds c S2 S' with
                | bad => rw [zf] at p2; exact p2.elim
                | exc e5 S5 =>
                  unfold froze at zf
                  split at zf
                  · split at zf <;> cases zf
                  · cases zf
                | ok y5 S5 =>
                  rw [zf] at p2
                  obtain ⟨f1, f2, f3⟩ := froze_ok s2 hC hn0 E12 x1 x3 zf
                  exact p2 _ _ _ f1 f2 f3
              | _ => exact p2.elim
          · cases z
      cases es with
      | nil =>
        have k2 : v.pos = 0 := k2
        rw [k2] at KB'
        refine ⟨_, pe_mk0 (W := W) M' F' (G.room.mono (by omega)) G.grd KB' G.tk (gl_of G hg) hm (dbg_of hdb).1 pu k3, fun ρ σ H env S Q re rs p => ?_⟩
        rw [h0 rfl] at p
        have := fin ρ σ H env S Q [] [] re rs (by simp [RepVs]) p
        rw [k2] at this
        exact this
      | cons e es =>
        refine ⟨_, pe_mk (W := W) M' F' (G.room.mono (by omega)) G.grd KB' G.tk (gl_of G hg) hm (dbg_of hdb).1 pt pu hn k3, fun ρ σ H env S Q re rs p => ?_⟩
        refine qt ρ σ H env S _ re rs (p.bind.imp fun xs H1 ⟨us, ρ1, S1, e1, r1, s1, p1⟩ => ?_)
        exact fin ρ1 σ H1 env S1 Q us xs (re.ext e1) s1 r1 p1
    · cases hmw
theorem lookup_zip {ρ : List Addr} {H : Hp} {f : Str} {v : Val} : ∀ {ns : List Str} {fs : List Val} {us : List V}, RepVs w ρ H fs us → (ns.zip fs).lookup f = some v → ∃ u, (ns.zip us).lookup f = some u ∧ RepV w ρ H v u ∧ f ∈ ns
  | [], _, _, _, h => by simp at h
  | _ :: _, [], _, _, h => by simp at h
  | n :: ns, x :: fs, us, r, h => by
    simp only [RepVs] at r
    obtain ⟨u, us, rfl, r1, r2⟩ := r
    rw [List.zip_cons_cons] at h ⊢
    rw [List.lookup_cons] at h ⊢
    cases e : f == n with
    | true =>
      rw [e] at h
      cases h
      exact ⟨u, rfl, r1, by rw [eq_of_beq e]; exact List.mem_cons_self⟩
    | false =>
      rw [e] at h
      obtain ⟨y, a, b, c⟩ := lookup_zip r2 h
      exact ⟨y, a, b, List.mem_cons_of_mem _ c⟩
theorem de_fld (G : Good w T fuel k N ow sc W X) {e : Expr} {f : Str} {m : Env → M Val} {pos : Pos} (hb : attributeBase e f X.env (eval e X.env) = eval e X.env) (h : DE w W X e m) :
    DE w W X (.Attribute e f pos) (fun env => do let x ← m env; fldV x f T.cnames) := by
  obtain ⟨t, pt, q⟩ := h.ex
  refine ⟨_, pe_fld pt hb, fun ρ σ H env S Q re rs p => ?_⟩
  refine q ρ σ H env S _ re rs (p.bind.imp fun x H1 ⟨u, ρ1, S1, e1, r1, s1, p1⟩ => ?_)
  unfold fldV at p1
  split at p1
  · rename_i c fs
    simp only [RepV] at r1
    obtain ⟨a, C, dx, ns, vs, rfl, h1, h2, h3, h4, h5⟩ := r1
    obtain ⟨n1, n2⟩ := G.ca.nm c C ns h1
    split at p1
    · rename_i v hv
      rw [n1] at hv
      obtain ⟨y, l1, l2, l3⟩ := lookup_zip h5 hv
      rw [G.hK]
      exact ⟨a, C, dx, _, y, rfl, h3, (G.cls c C ns h1).cl, n2 f l3, l1, p1.ok l2 s1⟩
    · exact p1.elim
  · exact p1.elim
end
end Pd

/-! Pd, part 10: methods of lists, what is walked, comprehensions. -/
namespace Pd
open PySem PySem.Spec L2

section
variable {w : Wd} {ρ : List Addr} {H : Hp}
theorem strs_of : ∀ {l : List Val} {ys : List Str} {vs : List V}, RepVs w ρ H l vs → strsOf l = some ys → vs = ys.map V.str
  | [], ys, vs, r, h => by
    simp only [RepVs] at r; subst r
    have e := Option.some.inj h
    subst e; rfl
  | x :: l, ys, vs, r, h => by
    simp only [RepVs] at r
    obtain ⟨v, q, rfl, r1, r2⟩ := r
    cases x <;> first | (simp [strsOf] at h; done) | skip
    rename_i z
    simp only [strsOf] at h
    cases e : strsOf l with
    | none => rw [e] at h; cases h
    | some zs =>
      rw [e] at h
      have e2 := Option.some.inj h
      subst e2
      simp only [RepV] at r1
      subst r1
      rw [strs_of r2 e]
      rfl
/-- d.update(e), both dicts with plain keys -/
def rUpdD : V → List V → Hp → VK → Prop := fun x vs H Q => ∃ (a b : Addr) (kvs more : List (Key × V)), x = .ref a ∧ vs = [.ref b] ∧ a ≠ b ∧ H a = some (.dK kvs) ∧ H b = some (.dK more) ∧ kvs.length + more.length ≤ sizeLine ∧ Q .non (upd H a (.dK (mergeK kvs more)))
theorem mt_updD {X : Cx} : MtR X "dict.update" rUpdD := by
  intro pins s σ H x vs v us Q I rx rxs h
  obtain ⟨a, b, kvs, more, rfl, rfl, hab, ha, hb, hz, q⟩ := h
  cases rx
  cases rxs with
  | cons r1 rr =>
    cases rr
    cases r1
    obtain ⟨z1, hd1, vs1, rel1, dd1⟩ := dk_of I.hok ha
    obtain ⟨z2, hd2, vs2, rel2, dd2⟩ := dk_of I.hok hb
    refine call_meetsIn PySem.F.slot_dict_update dd1.typeIs PySem.F.entry_dict_update (PySem.F.args_dict_update_2 _ _) (meets_dict_update (mixKind X.prog X.w) a b hab hd2) ⟨vs1, vs2, dd1, dd2, ?_, fun h' m1 _ sb => ?_⟩
    · have e1 := rel1.length
      have e2 := rel2.length
      omega
    · have he : ∃ q, h'.get? a = some q := let ⟨q, _, _, hq, _⟩ := m1; ⟨q, hq⟩
      have hl := length_mergeK more kvs
      exact ⟨.non, _, d_write (t' := s.toks) I (by rw [ha]; exact True.intro) sb he (dk_new (by omega) hd1 (KV.merge rel2 rel1) m1), rfl, q⟩
def rGet1 : V → List V → Hp → VK → Prop := fun x vs H Q => ∃ a y o, x = .ref a ∧ vs = [y] ∧ DGet H a y o ∧ Q (o.getD .non) H
theorem mt_get1 {X : Cx} (hu : X.A.units + 1 < cLine) : MtR X "dict.get" rGet1 := by
  intro pins s σ H x vs v us Q I rx rxs h
  obtain ⟨a, y, o, rfl, rfl, g, q⟩ := h
  cases rx
  cases rxs with
  | cons r1 rr =>
    cases rr
    exact d_get1 hu I g r1 fun w' s' I' rw' => ⟨_, H, I', rw', q⟩
def rGet2 : V → List V → Hp → VK → Prop := fun x vs H Q => ∃ a y z o, x = .ref a ∧ vs = [y, z] ∧ DGet H a y o ∧ Q (o.getD z) H
theorem mt_get2 {X : Cx} (hu : X.A.units + 1 < cLine) : MtR X "dict.get" rGet2 := by
  intro pins s σ H x vs v us Q I rx rxs h
  obtain ⟨a, y, z, o, rfl, rfl, g, q⟩ := h
  cases rx
  cases rxs with
  | cons r1 rr =>
    cases rr with
    | cons r2 rr =>
      cases rr
      exact d_get2 hu I g r1 r2 fun w' s' I' rw' => ⟨_, H, I', rw', q⟩
def rJoin (K : PySem.W.Frag) : V → List V → Hp → VK → Prop := fun x xs H Q => ∃ a p, ∃ ys : List Str, x = .str a ∧ xs = [.ref p] ∧ (SqL K H p (ys.map V.str) ∨ SqT K H p (ys.map V.str)) ∧ (ys.map (·.length)).sum + ys.length * a.length ≤ 16777216 ∧ Q (.str (Txt.join a ys)) H
def rSix : V → List V → Hp → VK → Prop := fun x xs H Q => ∃ a b i rest, x = .str a ∧ xs = [.str b] ∧ Builtin.Str.occurrences a b 0 a.length 1 = i :: rest ∧ Q (.int (i : Nat)) H
def rSpl : V → List V → Hp → VK → Prop := fun x xs H Q => ∃ a b, x = .str a ∧ xs = [.str b] ∧ (b.length == 0) = false ∧ a.length + 2 ≤ sizeLine ∧ rNewStrs (Txt.split a b) H Q
end
theorem rep_strs {w : Wd} {ρ : List Addr} {H : Hp} : ∀ ys : List Str, RepVs w ρ H (ys.map Val.str) (ys.map V.str)
  | [] => by simp [RepVs]
  | y :: ys => by
    simp only [List.map_cons, RepVs]
    exact ⟨_, _, rfl, by simp [RepV], rep_strs ys⟩
/-- methods of lists; whose method it is -/
def lm : Bm → Bool
  | .append => true | .pop => true | .popAt => true | .extend => true | .insert => true | _ => false
def bmTy : Bm → String
  | .get1 => "dict" | .get2 => "dict" | .update => "dict" | .join => "str" | .sindex => "str" | .split => "str" | .bitlen => "int" | _ => "list"

section
variable {w : Wd} {W : WX} {σ : L2.St} {ρ : List Addr} {H : Hp} {S : Store}
theorem erase_rep : ∀ {xs : List Val} {vs : List V} (i : Nat), RepVs w ρ H xs vs → RepVs w ρ H (xs.eraseIdx i) (vs.eraseIdx i)
  | [], _, i, h => by simp only [RepVs] at h; subst h; simp [RepVs]
  | x :: xs, _, 0, h => by
    simp only [RepVs] at h
    obtain ⟨v, r, rfl, h2, h3⟩ := h
    simpa using h3
  | x :: xs, _, i + 1, h => by
    simp only [RepVs] at h
    obtain ⟨v, r, rfl, h2, h3⟩ := h
    simp only [List.eraseIdx_cons_succ, RepVs]
    exact ⟨v, _, rfl, h2, erase_rep i h3⟩
theorem dropLast_rep {xs : List Val} {vs : List V} (h : RepVs w ρ H xs vs) : RepVs w ρ H xs.dropLast vs.dropLast := by
  rw [List.dropLast_eq_take, List.dropLast_eq_take, h.length]
  exact h.take _
/-- a list of the store's is written -/
theorem Post.wrote {β : Type} {i : Nat} {a : Addr} {xs : List Val} {vs : List V} {v : Val} {x : V} {Q : VK} (p : Post w W σ (RepV w) ρ H (.ok v (S.set i (.lst xs))) Q) (rs : RepS w ρ H S) (h : ρ[i]? = some a)
    (r : RepVs w ρ H xs vs) (rv : RepV w ρ H v x) : Q x (upd H a (.lst vs)) := by
  have E : Ext ρ H ρ (upd H a (.lst vs)) := Ext.set h
  exact p _ _ _ E (rv.ext E) (rs.set h ⟨vs, rfl, r.ext E⟩)
def rBm (K : PySem.W.Frag) : Bm → V → List V → Hp → VK → Prop
  | .append => rAppend | .pop => rPop | .popAt => rPopAt | .extend => rExtend
  | .insert => fun x vs H Q => ∃ (l : Addr) (xs : List V) (i : Int) (y : V), x = .ref l ∧ vs = [.int i, y] ∧ H l = some (.lst xs) ∧ xs.length < sizeLine ∧ 0 ≤ i ∧ i < 2 ^ 63 ∧ Q .non (upd H l (.lst (xs.take i.toNat ++ [y] ++ xs.drop i.toNat)))
  | .get1 => rGet1 | .get2 => rGet2 | .update => rUpdD | .join => rJoin K | .sindex => rSix | .split => rSpl
  | .bitlen => fun _ _ _ _ => False
theorem getV_ok {o k d : Val} {x : V} {Q : VK} (ro : RepV w ρ H o x) (rs : RepS w ρ H S) (p : Post w W σ (RepV w) ρ H (getV o k d S) Q) :
    ∃ a vs q, x = .ref a ∧ H a = some (.dK vs) ∧ keyOf k = some q ∧ ∃ kvs, RepKV w ρ H kvs vs ∧ Post w W σ (RepV w) ρ H (.ok ((lookV kvs q).getD d) S) Q := by
  unfold getV dicOf at p
  cases o <;> dsimp only at p <;> first | exact p.elim | skip
  rename_i i
  simp only [RepV] at ro
  obtain ⟨a, rfl, ha⟩ := ro
  cases e : S[i]? with
  | none => rw [e] at p; exact p.elim
  | some c =>
    rw [e] at p
    cases c <;> dsimp only at p <;> first | exact p.elim | skip
    obtain ⟨vs, h1, h2⟩ := dct_at rs ha e
    split at p
    · rename_i q hq
      exact ⟨a, vs, q, rfl, h1, hq, _, h2, p⟩
    · exact p.elim
theorem bm_ok {m : Bm} {u : Val} {us : List Val} {x : V} {xs : List V} {Q : VK} (hm : m ≠ .bitlen) (ru : RepV w ρ H u x) (r : RepVs w ρ H us xs) (rs : RepS w ρ H S) (p : Post w W σ (RepV w) ρ H (bmV m u us S) Q) : rBm w.K m x xs H Q := by
  unfold bmV at p
  split at p
  · simp only [RepV] at ru
    simp only [RepVs] at r
    obtain ⟨a, rfl, a1⟩ := ru
    obtain ⟨y, _, rfl, r1, rfl⟩ := r
    unfold appendV at p
    split at p
    · rename_i l e
      split at p
      · rename_i hz
        obtain ⟨vs, h1, h2⟩ := lst_at rs a1 e
        exact ⟨a, vs, y, rfl, rfl, h1, by rw [h2.length, ← size_eq]; exact hz, p.wrote (β := Val) rs a1 (h2.append (by simp only [RepVs]; exact ⟨y, [], rfl, r1, rfl⟩)) (by simp [RepV])⟩
      · exact p.elim
    · exact p.elim
  · simp only [RepV] at ru
    simp only [RepVs] at r
    obtain ⟨a, rfl, a1⟩ := ru
    subst r
    unfold popV at p
    split at p
    · rename_i l e
      split at p
      · rename_i v hv
        obtain ⟨vs, h1, h2⟩ := lst_at rs a1 e
        obtain ⟨y, k1, k2⟩ := h2.get hv
        exact ⟨a, vs, y, rfl, rfl, h1, by rw [h2.length]; exact k1, p.wrote (β := Val) rs a1 (dropLast_rep h2) k2⟩
      · exact p.elim
    · exact p.elim
  · simp only [RepV] at ru
    simp only [RepVs, RepV] at r
    obtain ⟨a, rfl, a1⟩ := ru
    obtain ⟨y, _, rfl, rfl, rfl⟩ := r
    unfold popAtV at p
    split at p
    · rename_i l e
      split at p
      · rename_i hz
        simp only [Bool.and_eq_true, decide_eq_true_eq] at hz
        split at p
        · rename_i j hj
          split at p
          · rename_i v hv
            obtain ⟨vs, h1, h2⟩ := lst_at rs a1 e
            obtain ⟨y, k1, k2⟩ := h2.get hv
            exact ⟨a, vs, _, j, y, rfl, rfl, h1, hz.1, hz.2, by rw [h2.length]; exact hj, k1, p.wrote (β := Val) rs a1 (erase_rep j h2) k2⟩
          · exact p.elim
        · exact p.elim
      · exact p.elim
    · exact p.elim
  · simp only [RepV] at ru
    simp only [RepVs, RepV] at r
    obtain ⟨a, rfl, a1⟩ := ru
    obtain ⟨_, _, rfl, ⟨b, rfl, b1⟩, rfl⟩ := r
    unfold extendV at p
    split at p
    · rename_i l l' e e'
      split at p
      · rename_i hz
        obtain ⟨vs, h1, h2⟩ := lst_at rs a1 e
        obtain ⟨us, h3, h4⟩ := lst_at rs b1 e'
        exact ⟨a, b, vs, us, rfl, rfl, h1, h3, by rw [h2.length, h4.length, ← size_eq]; exact hz, p.wrote (β := Val) rs a1 (h2.append h4) (by simp [RepV])⟩
      · exact p.elim
    · exact p.elim
  · simp only [RepV] at ru
    simp only [RepVs, RepV] at r
    obtain ⟨a, rfl, a1⟩ := ru
    obtain ⟨_, _, rfl, rfl, y, _, rfl, r1, rfl⟩ := r
    unfold insertV at p
    split at p
    · rename_i l e
      split at p
      · rename_i hz
        simp only [Bool.and_eq_true, decide_eq_true_eq] at hz
        obtain ⟨vs, h1, h2⟩ := lst_at rs a1 e
        refine ⟨a, vs, _, y, rfl, rfl, h1, by rw [h2.length, ← size_eq]; exact hz.1.1, hz.1.2, hz.2, p.wrote (β := Val) rs a1 ?_ (by simp [RepV])⟩
        exact ((h2.take _).append (by simp only [RepVs]; exact ⟨y, [], rfl, r1, rfl⟩)).append (h2.drop _)
      · exact p.elim
    · exact p.elim
  · exact absurd rfl hm
  · simp only [RepVs] at r
    obtain ⟨y, _, rfl, r1, rfl⟩ := r
    obtain ⟨a, vs, q, rfl, h1, ek, kvs, h2, pp⟩ := getV_ok ru rs p
    have ey := key_kV ek r1
    subst ey
    exact ⟨a, _, _, rfl, rfl, DGet.k h1, pp.ok ((look_rep h2).2 (by simp [RepV])) rs⟩
  · simp only [RepVs] at r
    obtain ⟨y, _, rfl, r1, z, _, rfl, r2, rfl⟩ := r
    obtain ⟨a, vs, q, rfl, h1, ek, kvs, h2, pp⟩ := getV_ok ru rs p
    have ey := key_kV ek r1
    subst ey
    exact ⟨a, _, z, _, rfl, rfl, DGet.k h1, pp.ok ((look_rep h2).2 r2) rs⟩
  · simp only [RepV] at ru
    simp only [RepVs, RepV] at r
    obtain ⟨a, rfl, a1⟩ := ru
    obtain ⟨_, _, rfl, ⟨b, rfl, b1⟩, rfl⟩ := r
    unfold updateV at p
    split at p
    · rename_i kvs more e1 e2
      split at p
      · rename_i hz
        simp only [Bool.and_eq_true, decide_eq_true_eq] at hz
        obtain ⟨vs, h1, h2⟩ := dct_at rs a1 e1
        obtain ⟨ms, h3, h4⟩ := dct_at rs b1 e2
        have hab : a ≠ b := fun z => by
          subst z
          obtain ⟨ha, ea⟩ := List.getElem?_eq_some_iff.mp a1
          obtain ⟨hb, eb⟩ := List.getElem?_eq_some_iff.mp b1
          exact hz.1 ((List.getElem_inj rs.nd).mp (ea.trans eb.symm))
        refine ⟨a, b, vs, ms, rfl, rfl, hab, h1, h3, by rw [h2.length, h4.length, ← size_eq]; exact hz.2, ?_⟩
        have E : Ext ρ H ρ (upd H a (.dK (mergeK vs ms))) := Ext.set a1
        exact p _ _ _ E (by simp [RepV]) (rs.set a1 ⟨_, rfl, (h4.merge h2).ext E⟩)
      · exact p.elim
    · exact p.elim
  · simp only [RepV] at ru
    simp only [RepVs] at r
    subst ru
    obtain ⟨y, _, rfl, r1, rfl⟩ := r
    unfold joinV at p
    split at p
    · rename_i l e
      split at p
      · rename_i ys e2
        split at p
        · rename_i hz
          obtain ⟨a, vs, rfl, h1, h2⟩ := seq_read rs r1 e
          have ev := strs_of h2 e2
          subst ev
          exact ⟨_, a, ys, rfl, rfl, h1, by simpa [sizeMax] using of_decide_eq_true hz, p.ok (by simp [RepV]) rs⟩
        · exact p.elim
      · exact p.elim
    · exact p.elim
  · simp only [RepV] at ru
    simp only [RepVs, RepV] at r
    subst ru
    obtain ⟨_, _, rfl, rfl, rfl⟩ := r
    unfold sindexV at p
    split at p
    · rename_i i rest e
      exact ⟨_, _, i, rest, rfl, rfl, e, p.ok (by simp [RepV]) rs⟩
    · exact p.elim
  · simp only [RepV] at ru
    simp only [RepVs, RepV] at r
    subst ru
    obtain ⟨_, _, rfl, rfl, rfl⟩ := r
    unfold splitV at p
    split at p
    · rename_i hz
      simp only [Bool.and_eq_true, decide_eq_true_eq] at hz
      exact ⟨_, _, rfl, rfl, by simpa using hz.1, by rw [← size_eq]; exact hz.2, fun q hq => p.alloc_lst rs (rep_strs _) q hq⟩
    · exact p.elim
  · exact p.elim
end

/-- what stands ahead of a dot is asked as it stands -/
theorem attr_base {o : Expr} {a : Str} {env : PySem.Env} {whole : Sem Value} (h : ∀ x p q, o = .Call (.Name x p) [] [] q → x ≠ "super") : attributeBase o a env whole = whole := by
  unfold attributeBase
  split
  · rename_i id _ pos
    have e := h id _ _ rfl
    rw [if_pos (by simp [e])]
  · rfl
theorem few_ok {es : List Expr} {env : PySem.Env} {pos : Pos} (h : NoStar es) (hf : fewB es = true) : ((backTo pos (starEach es env)).all (fun x => !x.1) && (backToKw pos (keywordEach [] env)).all (fun x => x.1.isSome)
      && decide (es.length + ([] : List Keyword).length + (if ([] : List Keyword).isEmpty then 0 else 1) < 30)) = true := by
  have h1 := NoStar.any h env pos
  have h2 : (backTo pos (starEach es env)).all (fun x => !x.1) = true := by
    rw [List.all_eq_true]
    intro x hx
    rw [List.any_eq_false] at h1
    have := h1 x hx
    simpa using this
  rw [h2]
  unfold fewB at hf
  simp only [decide_eq_true_eq] at hf
  simp [hf, keywordEach, backToKw]

section
variable {w : Wd} {T : Tab} {fuel k : Nat} {N : List Str} {ow sc : Scope} {W : WX} {X : Cx}
theorem recv_ty {m : Bm} {o : Val} {x : V} {ρ : List Addr} {σ : L2.St} {H : Hp} {S : Store} {Q : Unit → Hp → Prop} (hm : m ≠ .bitlen) (rs : RepS w ρ H S) (r : RepV w ρ H o x) (p : Post w W σ (fun _ _ _ _ => True) ρ H (recv m o S) Q) :
    L2.tyV w.K (bmTy m) x H ∧ Q () H := by
  have isD : (dicOf S o).isSome = true → L2.tyV w.K "dict" x H := by
    intro h
    unfold dicOf at h
    cases o <;> dsimp only at h <;> first | (cases h; done) | skip
    rename_i j
    simp only [RepV] at r
    obtain ⟨a, rfl, ha⟩ := r
    cases e : S[j]? with
    | none => rw [e] at h; cases h
    | some c =>
      rw [e] at h
      cases c <;> dsimp only at h <;> first | (cases h; done) | skip
      obtain ⟨vs, h1, h2⟩ := dct_at rs ha e
      exact .inr (.inr (.inl ⟨rfl, .inl ⟨vs, h1⟩⟩))
  have isS : isStrV o = true → L2.tyV w.K "str" x H := by
    intro h
    cases o <;> first | (cases h; done) | skip
    simp only [RepV] at r
    subst r
    rfl
  have isL : isLstV S o = true → L2.tyV w.K "list" x H := by
    intro h
    unfold isLstV at h
    cases o <;> dsimp only at h <;> first | (cases h; done) | skip
    rename_i j
    simp only [RepV] at r
    obtain ⟨a, rfl, ha⟩ := r
    cases e : S[j]? with
    | none => rw [e] at h; cases h
    | some c =>
      rw [e] at h
      cases c <;> dsimp only at h <;> first | (cases h; done) | skip
      obtain ⟨vs, h1, h2⟩ := lst_at rs ha e
      exact .inl ⟨rfl, vs, SqL.of h1⟩
  unfold recv at p
  by_cases c : recvB S m o = true
  · rw [if_pos c] at p
    refine ⟨?_, p.ok True.intro rs⟩
    cases m
    case bitlen => exact absurd rfl hm
    case get1 => exact isD c
    case get2 => exact isD c
    case update => exact isD c
    case join => exact isS c
    case sindex => exact isS c
    case split => exact isS c
    all_goals exact isL c
  · rw [if_neg c] at p
    exact p.elim
theorem de_bm (G : Good w T fuel k N ow sc W X) {m : Bm} {o e : Expr} {es : List Expr} {mo : Env → M Val} {ms : Env → M (List Val)} {apos pos : Pos} (hm : m ≠ .bitlen ∧ m ≠ .pop)
    (ho : DE w W X o mo) (hb : ∀ x p q, o = .Call (.Name x p) [] [] q → x ≠ "super") (hs : DA w W X (e :: es) ms) (hn : NoStar (e :: es)) (hf : fewB (e :: es) = true) (hl : (apos.endLine == pos.line) = true) :
    DE w W X (.Call (.Attribute o (bmName m) apos) (e :: es) [] pos) (fun env => do let x ← mo env; recv m x; let xs ← ms env; bmV m x xs) := by
  obtain ⟨to, po, qo⟩ := ho.ex
  obtain ⟨ts, ps, qs⟩ := hs.ex
  have hst := star_cons (env := X.env) (es := es) (hn e List.mem_cons_self)
  have hpl : (backTo pos (starEach es X.env)).any (·.1) = false := NoStar.any (fun x hx => hn x (List.mem_cons_of_mem _ hx)) _ _
  have hu := hu_of G.room
  have main : PE X (.Call (.Attribute o (bmName m) apos) (e :: es) [] pos) (tBM X.K (bmTy m) (rBm X.K m) to ts) := by
    cases m with
    | append => exact pe_bm PySem.F.plainAttrs_list PySem.F.slot_list_append PySem.F.type_list_append mt_append po ps (attr_base hb) (few_ok hn hf) hl hst hpl
    | popAt => exact pe_bm PySem.F.plainAttrs_list PySem.F.slot_list_pop PySem.F.type_list_pop mt_popAt po ps (attr_base hb) (few_ok hn hf) hl hst hpl
    | extend => exact pe_bm PySem.F.plainAttrs_list PySem.F.slot_list_extend PySem.F.type_list_extend mt_extend po ps (attr_base hb) (few_ok hn hf) hl hst hpl
    | insert => exact pe_bm PySem.F.plainAttrs_list PySem.F.slot_list_insert PySem.F.type_list_insert mt_insert po ps (attr_base hb) (few_ok hn hf) hl hst hpl
    | get1 => exact pe_bm PySem.F.plainAttrs_dict PySem.F.slot_dict_get PySem.F.type_dict_get (mt_get1 hu) po ps (attr_base hb) (few_ok hn hf) hl hst hpl
    | get2 => exact pe_bm PySem.F.plainAttrs_dict PySem.F.slot_dict_get PySem.F.type_dict_get (mt_get2 hu) po ps (attr_base hb) (few_ok hn hf) hl hst hpl
    | update => exact pe_bm PySem.F.plainAttrs_dict PySem.F.slot_dict_update PySem.F.type_dict_update mt_updD po ps (attr_base hb) (few_ok hn hf) hl hst hpl
    | join => exact pe_bm PySem.F.plainAttrs_str PySem.F.slot_str_join PySem.F.type_str_join mt_join po ps (attr_base hb) (few_ok hn hf) hl hst hpl
    | sindex => exact pe_bm PySem.F.plainAttrs_str PySem.F.slot_str_index PySem.F.type_str_index mt_sindex po ps (attr_base hb) (few_ok hn hf) hl hst hpl
    | split => exact pe_bm PySem.F.plainAttrs_str PySem.F.slot_str_split PySem.F.type_str_split mt_split po ps (attr_base hb) (few_ok hn hf) hl hst hpl
    | pop => exact absurd rfl hm.2
    | bitlen => exact absurd rfl hm.1
  refine ⟨_, main, fun ρ σ H env S Q re rs p => ?_⟩
  refine qo ρ σ H env S _ re rs (p.bind.imp fun x H1 ⟨u, ρ1, S1, e1, r1, s1, p1⟩ => ?_)
  obtain ⟨t1, _, ρ2, S2, e2, _, s2, p2⟩ := recv_ty hm.1 s1 r1 (p1.bind (rel := fun _ _ _ _ => True))
  refine ⟨by rw [G.hK]; exact t1, ?_⟩
  refine qs ρ2 σ H1 env S2 _ (re.ext (e1.trans e2)) s2 (p2.bind.imp fun xs H2 ⟨us, ρ3, S3, e3, r3, s3, p3⟩ => ?_)
  rw [G.hK]
  exact bm_ok hm.1 ((r1.ext e2).ext e3) r3 s3 p3
theorem de_pop (G : Good w T fuel k N ow sc W X) {o : Expr} {mo : Env → M Val} {apos pos : Pos} (ho : DE w W X o mo) (hb : ∀ x p q, o = .Call (.Name x p) [] [] q → x ≠ "super") (hl : (apos.endLine == pos.line) = true) :
    DE w W X (.Call (.Attribute o "pop" apos) [] [] pos) (fun env => do let x ← mo env; recv .pop x; let xs ← (pure [] : M (List Val)); bmV .pop x xs) := by
  obtain ⟨to, po, qo⟩ := ho.ex
  refine ⟨_, pe_bm0 PySem.F.plainAttrs_list PySem.F.slot_list_pop PySem.F.type_list_pop mt_pop po (attr_base hb) hl, fun ρ σ H env S Q re rs p => ?_⟩
  refine qo ρ σ H env S _ re rs (p.bind.imp fun x H1 ⟨u, ρ1, S1, e1, r1, s1, p1⟩ => ?_)
  obtain ⟨t1, _, ρ2, S2, e2, _, s2, p2⟩ := recv_ty (m := .pop) (fun z => nomatch z) s1 r1 (p1.bind (rel := fun _ _ _ _ => True))
  exact ⟨by rw [G.hK]; exact t1, bm_ok (m := .pop) (fun z => nomatch z) (r1.ext e2) (by simp [RepVs]) s2 p2⟩
theorem de_bitlen {o : Expr} {mo : Env → M Val} {apos pos : Pos} (ho : DE w W X o mo) (hb : ∀ x p q, o = .Call (.Name x p) [] [] q → x ≠ "super") (hl : (apos.endLine == pos.line) = true) :
    DE w W X (.Call (.Attribute o "bit_length" apos) [] [] pos) (fun env => do let x ← mo env; recv .bitlen x; let xs ← (pure [] : M (List Val)); bmV .bitlen x xs) := by
  obtain ⟨to, po, qo⟩ := ho.ex
  refine ⟨_, pe_bits po (attr_base hb) hl, fun ρ σ H env S Q re rs p => ?_⟩
  refine qo ρ σ H env S _ re rs (p.bind.imp fun x H1 ⟨u, ρ1, S1, e1, r1, s1, p1⟩ => ?_)
  rw [bind_app] at p1
  unfold recv at p1
  cases u <;> simp only [recvB, isIntV] at p1 <;> first | exact p1.elim | skip
  simp only [RepV] at r1
  exact ⟨_, r1, p1.ok (by simp [RepV]) s1⟩
end
end Pd

/-! Pd, part 11: what is walked, targets, comprehensions. -/
namespace Pd
open PySem PySem.Spec L2

/-! ### one reading for every context -/
def tOf (w : Wd) (W : WX) (m : Env → M Val) : TE := fun σ H Q => ∃ ρ env S, RepE w ρ H env σ ∧ RepS w ρ H S ∧ Post w W σ (RepV w) ρ H (m env S) Q
def ttOf (w : Wd) (W : WX) (m : Env → M Bool) : TT := fun σ H Q => ∃ ρ env S, RepE w ρ H env σ ∧ RepS w ρ H S ∧ Post w W σ (fun _ _ a b => a = b) ρ H (m env S) Q
section
variable {w : Wd} {W : WX} {X : Cx} {e : Expr}
theorem DE.pe {m : Env → M Val} (h : DE w W X e m) : PE X e (tOf w W m) := by
  obtain ⟨t, pt, q⟩ := h.ex
  exact ⟨fun pins s σ H Q I ⟨ρ, env, S, r1, r2, p⟩ => pt.run pins s σ H Q I (q ρ σ H env S Q r1 r2 p)⟩
theorem DT.pt {m : Env → M Bool} (h : DT w W X e m) : PT X e (ttOf w W m) := by
  obtain ⟨t, pt, q⟩ := h.ex
  exact ⟨fun pins s σ H Q I ⟨ρ, env, S, r1, r2, p⟩ => pt.run pins s σ H Q I (q ρ σ H env S Q r1 r2 p)⟩
end

/-! ### targets -/
/-- what a target stores: other slots stay -/
structure DG (w : Wd) (X : Cx) (tg : Expr) (t : IT) : Prop where
  ex : ∃ g, PG X tg g ∧ ∀ ρ σ H env v x S env', RepE w ρ H env σ → RepV w ρ H v x → RepS w ρ H S → evT S t v env = some env' →
    ∃ σ', RepE w ρ H env' σ' ∧ σ'.length = σ.length ∧ (∀ i, i ∉ slotsT t → σ'[i]? = σ[i]?) ∧ ∀ Q : L2.St → Hp → Prop, Q σ' H → g x σ H Q
structure DGs (w : Wd) (X : Cx) (tgs : List Expr) (ts : ITs) : Prop where
  ex : ∃ g, PGs X tgs g ∧ ∀ ρ σ H env vs xs S env', RepE w ρ H env σ → RepVs w ρ H vs xs → RepS w ρ H S → evTs S ts vs env = some env' →
    ∃ σ', RepE w ρ H env' σ' ∧ σ'.length = σ.length ∧ (∀ i, i ∉ slotsTs ts → σ'[i]? = σ[i]?) ∧ xs.length = tgs.length ∧ ∀ Q : L2.St → Hp → Prop, Q σ' H → g xs σ H Q
theorem pg_either {X : Cx} {tg : Expr} {g g' : TG} (h : PG X tg g) (h' : PG X tg g') : PG X tg (fun v σ H Q => g v σ H Q ∨ g' v σ H Q) := by
  refine ⟨fun pins s σ H v u Q I r q => ?_⟩
  rcases q with q | q
  · exact h.run pins s σ H v u Q I r q
  · exact h'.run pins s σ H v u Q I r q
theorem each_len {env : PySem.Env} : ∀ {es : List Expr}, NoStar es → (assignEach es env).length = es.length ∧ (assignEach es env).findIdx? (·.1) = none
  | [], _ => ⟨rfl, rfl⟩
  | e :: es, h => by
    obtain ⟨h1, h2⟩ := each_len (env := env) (es := es) fun x hx => h x (List.mem_cons_of_mem _ hx)
    have key : assignEach (e :: es) env = (false, assign e env) :: assignEach es env := by
      cases e <;> first | rfl | exact absurd rfl (h _ List.mem_cons_self _ _)
    rw [key]
    refine ⟨by simp [h1], ?_⟩
    rw [List.findIdx?_cons, h2]
    rfl
theorem each_cons {env : PySem.Env} {e : Expr} {es : List Expr} (h : ∀ x p, e ≠ .Starred x p) : (assignEach (e :: es) env).map (·.2) = assign e env :: (assignEach es env).map (·.2) := by
  cases e <;> first | rfl | exact absurd rfl (h _ _)
section
variable {w : Wd} {T : Tab} {fuel k : Nat} {N : List Str} {ow sc : Scope} {W : WX} {X : Cx}
theorem chkT_star {t : IT} {x : Expr} {p : Pos} (h : chkT T N ow sc t (.Starred x p) = true) : False := by
  cases t <;> simp [chkT] at h
theorem chkTs_star : ∀ {ts : ITs} {es : List Expr}, chkTs T N ow sc ts es = true → NoStar es
  | .nil, [], _ => fun _ z => (List.not_mem_nil z).elim
  | .nil, _ :: _, h => by simp [chkTs] at h
  | .cons _ _, [], h => by simp [chkTs] at h
  | .cons t ts, e :: es, h => by
    simp only [chkTs, Bool.and_eq_true] at h
    intro z hz
    rcases List.mem_cons.mp hz with rfl | hz
    · intro x p q
      subst q
      exact chkT_star h.1
    · exact chkTs_star h.2 z hz
mutual
theorem dg_of (G : Good w T fuel k N ow sc W X) : ∀ (t : IT) (tg : Expr), chkT T N ow sc t tg = true → DG w X tg t
  | .name i, tg, h => by
    cases tg <;> first | (simp [chkT] at h; done) | skip
    rename_i x p
    simp only [chkT, Bool.and_eq_true, decide_eq_true_eq] at h
    obtain ⟨h1, h2⟩ := G.hst x h.2
    refine ⟨_, pg_name G.nd (by rw [G.hN]; exact h.1) h1 h2, fun ρ σ H env v x S env' re rv rs e => ?_⟩
    have e' : envSet env i v = env' := Option.some.inj (by simpa [evT] using e)
    subst e'
    refine ⟨σ.set i (some x), re.set rv i, by simp, fun j hj => ?_, fun Q q => q⟩
    rw [List.getElem?_set_ne]
    intro z
    exact hj (by simp [slotsT, z])
  | .tup ts, tg, h => by
    cases tg <;> first | (simp [chkT] at h; done) | skip
    rename_i es j p
    have h' : chkTs T N ow sc ts es = true := by simpa [chkT] using h
    obtain ⟨g, pg, q⟩ := (dgs_of G ts es h').ex
    obtain ⟨l1, l2⟩ := each_len (env := X.env) (chkTs_star h')
    refine ⟨_, pg_either (pg_tup (k := j) (pos := p) (n := es.length) G.calm pg l1 l2) (pg_unl (n := es.length) G.calm pg l1 l2), fun ρ σ H env v x S env' re rv rs e => ?_⟩
    simp only [evT] at e
    split at e
    · rename_i xs hx
      obtain ⟨a, vs, rfl, h1, h2⟩ := seq_read rs rv hx
      obtain ⟨σ', k1, k2, k3, k4, k5⟩ := q ρ σ H env xs vs S env' re h2 rs e
      refine ⟨σ', k1, k2, fun i hi => k3 i (by simpa [slotsT] using hi), fun Q hq => ?_⟩
      rw [G.hK]
      rcases h1 with h1 | h1
      · exact .inr ⟨a, vs, rfl, h1, k4, k5 Q hq⟩
      · exact .inl ⟨a, vs, rfl, h1, k4, k5 Q hq⟩
    · cases e
theorem dgs_of (G : Good w T fuel k N ow sc W X) : ∀ (ts : ITs) (es : List Expr), chkTs T N ow sc ts es = true → DGs w X es ts
  | .nil, es, h => by
    cases es with
    | cons _ _ => simp [chkTs] at h
    | nil =>
      refine ⟨_, pgs_nil, fun ρ σ H env vs xs S env' re rv rs e => ?_⟩
      cases vs with
      | cons _ _ => simp [evTs] at e
      | nil =>
        simp only [RepVs] at rv
        subst rv
        have e' : env = env' := by simpa [evTs] using e
        subst e'
        exact ⟨σ, re, rfl, fun _ _ => rfl, rfl, fun Q q => ⟨rfl, q⟩⟩
  | .cons t ts, es, h => by
    cases es with
    | nil => simp [chkTs] at h
    | cons e es =>
      have hn := chkTs_star h
      simp only [chkTs, Bool.and_eq_true] at h
      obtain ⟨g, pg, q⟩ := (dg_of G t e h.1).ex
      obtain ⟨gs, pgs, qs⟩ := (dgs_of G ts es h.2).ex
      refine ⟨_, pgs_cons pg pgs (each_cons (hn e List.mem_cons_self)), fun ρ σ H env vs xs S env' re rv rs ee => ?_⟩
      cases vs with
      | nil => simp [evTs] at ee
      | cons v vs =>
        simp only [RepVs] at rv
        obtain ⟨x, r, rfl, r1, r2⟩ := rv
        simp only [evTs] at ee
        split at ee
        · rename_i env1 e1
          obtain ⟨σ1, a1, a2, a3, a4⟩ := q ρ σ H env v x S env1 re r1 rs e1
          obtain ⟨σ2, b1, b2, b3, b4, b5⟩ := qs ρ σ1 H env1 vs r S env' a1 r2 rs ee
          refine ⟨σ2, b1, b2.trans a2, fun i hi => ?_, by simp [b4], fun Q hq => ⟨x, r, rfl, a4 _ (b5 Q hq)⟩⟩
          simp only [slotsTs, List.mem_append, not_or] at hi
          rw [b3 i hi.2, a3 i hi.1]
        · cases ee
end
end
end Pd

/-! Pd, part 12: what is walked, comprehensions. -/
namespace Pd
open PySem PySem.Spec L2

/-! ### what is walked -/
/-- list, tuple or str, by what comes -/
def iVal (K : PySem.W.Frag) (tl : TE) : TI := fun σ H R => tl σ H fun x H1 =>
  (∃ a, x = .ref a ∧ (∃ xs, SqL K H1 a xs) ∧ R (Itl K a) H1) ∨ (∃ a, x = .ref a ∧ (∃ xs, SqT K H1 a xs) ∧ R (Itt K a) H1) ∨ ∃ y, x = .str y ∧ R (Its y) H1
theorem pi_val {X : Cx} {tg l : Expr} {tl : TE} (hl : PE X l tl) : PI X tg l (iVal X.K tl) := by
  refine ⟨fun pins s σ H R I h => ?_⟩
  refine thn (hl.run pins s σ H _ I h) fun v s1 hq => ?_
  obtain ⟨x, H1, I1, r1, q | q | q⟩ := hq
  · obtain ⟨a, e, ⟨xs, hx⟩, q⟩ := q
    subst e
    cases r1
    obtain ⟨its, rv, pl, hz⟩ := I1.list hx
    exact wpAny_pyIter_list pl.isList (pi_one (tk := s1.toks) I1 _ (turn_list a _) ⟨_, Heap.get?_push_size _ rfl, rfl, rfl⟩ q)
  · obtain ⟨a, e, ⟨xs, hx⟩, q⟩ := q
    subst e
    cases r1
    obtain ⟨its, rv, pl, hz⟩ := I1.tuple hx
    exact wpAny_pyIter_tuple (show s1.heap.IsTuple a its.toArray from pl) (pi_one (tk := s1.toks) I1 _ (turn_tuple a _) ⟨_, Heap.get?_push_size _ rfl, rfl, rfl⟩ q)
  · obtain ⟨y, e, q⟩ := q
    subst e
    obtain ⟨t, rfl⟩ := r1
    cases ha : y.cps.all (· < 128)
    · exact wpAny_pyIter_wide ha (pi_one (tk := s1.toks) I1 _ (turn_str _ y t _ (.inr rfl)) ⟨_, Heap.get?_push_size _ rfl, rfl, rfl⟩ q)
    · exact wpAny_pyIter_ascii ha (pi_one (tk := s1.toks) I1 _ (turn_str _ y t _ (.inl rfl)) ⟨_, Heap.get?_push_size _ rfl, rfl, rfl⟩ q)

/-- the heap and the store's places, later: what may change but isn't the store's may have changed -/
structure ExtW (ρ : List Addr) (H : Hp) (ρ' : List Addr) (H' : Hp) : Prop where
  pre : ∃ more, ρ' = ρ ++ more ∧ ∀ a ∈ more, H a = none
  oth : ∀ a o, H a = some o → a ∉ ρ → Held o → H' a = some o
  mono : ∀ a o, H a = some o → ∃ o', H' a = some o'
section
variable {w : Wd} {ρ ρ' ρ2 : List Addr} {H H' H2 : Hp}
theorem Ext.wk (e : Ext ρ H ρ' H') : ExtW ρ H ρ' H' := ⟨e.pre, fun a o h n _ => e.oth a o h n, e.mono⟩
theorem ExtW.out (e : ExtW ρ H ρ' H') {a : Addr} {o : HO} (h : H a = some o) (n : a ∉ ρ) : a ∉ ρ' := by
  obtain ⟨m, rfl, hm⟩ := e.pre
  intro z
  rcases List.mem_append.mp z with z | z
  · exact n z
  · rw [hm a z] at h; cases h
theorem ExtW.more (e : ExtW ρ H ρ' H') (f : Ext ρ' H' ρ2 H2) : ExtW ρ H ρ2 H2 := by
  refine ⟨?_, fun a o h n k => f.oth a o (e.oth a o h n k) (e.out h n), fun a o h => ?_⟩
  · obtain ⟨m, rfl, hm⟩ := e.pre
    obtain ⟨m2, rfl, hm2⟩ := f.pre
    refine ⟨m ++ m2, by simp, fun a ha => ?_⟩
    rcases List.mem_append.mp ha with z | z
    · exact hm a z
    · cases q : H a with
      | none => rfl
      | some o =>
        obtain ⟨o', h'⟩ := e.mono a o q
        rw [hm2 a z] at h'; cases h'
  · obtain ⟨o1, h1⟩ := e.mono a o h
    exact f.mono a o1 h1
theorem ExtW.own {D : Addr} {o : HO} (e : ExtW ρ H ρ' H') (h : H D = some o) (b : ¬ Held o) (u : HO) : ExtW ρ H ρ' (upd H' D u) := by
  refine ⟨e.pre, fun a z q n k => ?_, fun a z q => ?_⟩
  · rw [upd_ne (not_held h b q k)]
    exact e.oth a z q n k
  · by_cases c : a = D
    · subst c; exact ⟨u, upd_same⟩
    · rw [upd_ne c]; exact e.mono a z q
theorem StT.extW {a : Addr} {vs : List V} (e : ExtW ρ H ρ' H') (h : StT w ρ H a vs) : StT w ρ' H' a vs := by
  rcases h with ⟨n, h | ⟨o, h⟩⟩ | h
  · exact .inl ⟨e.out h n, .inl (e.oth _ _ h n held_tup)⟩
  · exact .inl ⟨e.out h n, .inr ⟨o, e.oth _ _ h n held_frz⟩⟩
  · exact .inr h
theorem StL.extW {a : Addr} {vs : List V} (e : ExtW ρ H ρ' H') (h : StL w ρ H a vs) : StL w ρ' H' a vs := by
  rcases h with ⟨n, o, h⟩ | h
  · exact .inl ⟨e.out h n, o, e.oth _ _ h n held_frz⟩
  · exact .inr h
mutual
theorem RepV.extW (e : ExtW ρ H ρ' H') : ∀ (x : Val) (v : V), RepV w ρ H x v → RepV w ρ' H' x v
  | .non, _, h => by simpa only [RepV] using h
  | .bl _, _, h => by simpa only [RepV] using h
  | .int _, _, h => by simpa only [RepV] using h
  | .str _, _, h => by simpa only [RepV] using h
  | .tup xs, v, h => by
    simp only [RepV] at h ⊢
    obtain ⟨a, vs, h1, h2, h3⟩ := h
    exact ⟨a, vs, h1, h2.extW e, RepVs.extW e xs vs h3⟩
  | .ins c fs, v, h => by
    simp only [RepV] at h ⊢
    obtain ⟨p, C, dx, ns, vs, h1, h2, h3, h4, h5, h6⟩ := h
    exact ⟨p, C, dx, ns, vs, h1, h2, e.out h4 h3, e.oth _ _ h4 h3 held_ins, h5, RepVs.extW e fs vs h6⟩
  | .scr ns, v, h => by
    simp only [RepV] at h ⊢
    obtain ⟨a, h1, h2⟩ := h
    exact ⟨a, h1, h2.extW e⟩
  | .ref i, v, h => by
    simp only [RepV] at h ⊢
    obtain ⟨a, h1, h2⟩ := h
    obtain ⟨m, rfl, _⟩ := e.pre
    refine ⟨a, h1, ?_⟩
    have hi : i < ρ.length := (List.getElem?_eq_some_iff.mp h2).1
    rw [List.getElem?_append_left hi]; exact h2
theorem RepVs.extW (e : ExtW ρ H ρ' H') : ∀ (xs : List Val) (vs : List V), RepVs w ρ H xs vs → RepVs w ρ' H' xs vs
  | [], _, h => by simpa only [RepVs] using h
  | x :: xs, vs, h => by
    simp only [RepVs] at h ⊢
    obtain ⟨v, r, h1, h2, h3⟩ := h
    exact ⟨v, r, h1, RepV.extW e x v h2, RepVs.extW e xs r h3⟩
end
theorem RepE.extW (e : ExtW ρ H ρ' H') : ∀ (env : Env) (σ : L2.St), RepE w ρ H env σ → RepE w ρ' H' env σ
  | [], _, h => h
  | none :: env, σ, ⟨s, r, h1, h2⟩ => ⟨s, r, h1, RepE.extW e env r h2⟩
  | some v :: env, σ, ⟨x, r, h1, h2, h3⟩ => ⟨x, r, h1, RepV.extW e v x h2, RepE.extW e env r h3⟩
end
/-- the iterator J gives what src does, now and later -/
def SrcOk (w : Wd) (ρ : List Addr) (H : Hp) (src : Src) (J : It) : Prop := ∀ ρ' H' S', ExtW ρ H ρ' H' → RepS w ρ' H' S' → ∀ k,
  (src.at S' k = some none → J.stop k H') ∧
    ∀ x, src.at S' k = some (some x) → J.go k H' ∧ ∀ v H2, J.yld k H' v H2 → Ext ρ' H' ρ' H2 ∧ RepV w ρ' H2 x v ∧ RepS w ρ' H2 S'
structure DI (w : Wd) (W : WX) (X : Cx) (tg e : Expr) (m : Env → M Src) : Prop where
  ex : ∃ t, PI X tg e t ∧ ∀ ρ σ H env S (R : It → Hp → Prop), RepE w ρ H env σ → RepS w ρ H S → Post w W σ (SrcOk w) ρ H (m env S) R → t σ H R

section
variable {w : Wd} {ρ : List Addr} {H : Hp} {S : Store}
theorem src_tup {a : Addr} {xs : List Val} {vs : List V} (h : StT w ρ H a vs) (r : RepVs w ρ H xs vs) : SrcOk w ρ H (.stat xs) (Itt w.K a) := by
  intro ρ' H' S' e rs k
  have h' := (h.extW e).sq
  have r' := RepVs.extW e _ _ r
  refine ⟨fun q => ⟨vs, h', ?_⟩, fun x q => ?_⟩
  · have q : xs[k]? = none := Option.some.inj q
    rw [r.length]
    exact List.getElem?_eq_none_iff.mp q
  · have q : xs[k]? = some x := Option.some.inj q
    obtain ⟨v, h1, h2⟩ := r'.get q
    refine ⟨⟨vs, v, h', h1⟩, fun u H2 y => ?_⟩
    obtain ⟨rfl, y⟩ := y
    have e := y vs h'
    rw [h1] at e
    cases e
    exact ⟨Ext.refl _ _, h2, rs⟩
theorem src_scr {a : Addr} {ns : List Int} (h : StL w ρ H a (ns.map V.int)) : SrcOk w ρ H (.stat (ns.map .int)) (Itl w.K a) := by
  intro ρ' H' S' e rs k
  have h' := (h.extW e).sq
  have r' : RepVs w ρ' H' (ns.map .int) (ns.map V.int) := RepVs.ints ns
  refine ⟨fun q => ⟨_, h', ?_⟩, fun x q => ?_⟩
  · have q : (ns.map Val.int)[k]? = none := Option.some.inj q
    rw [r'.length]
    exact List.getElem?_eq_none_iff.mp q
  · have q : (ns.map Val.int)[k]? = some x := Option.some.inj q
    obtain ⟨v, h1, h2⟩ := r'.get q
    refine ⟨⟨_, v, h', h1⟩, fun u H2 y => ?_⟩
    obtain ⟨rfl, y⟩ := y
    have e := y _ h'
    rw [h1] at e
    cases e
    exact ⟨Ext.refl _ _, h2, rs⟩
theorem src_lst {a : Addr} {i : Nat} (h : ρ[i]? = some a) : SrcOk w ρ H (.dyn i) (Itl w.K a) := by
  intro ρ' H' S' e rs k
  have ha : ρ'[i]? = some a := by
    obtain ⟨m, rfl, _⟩ := e.pre
    rw [List.getElem?_append_left (List.getElem?_eq_some_iff.mp h).1]; exact h
  have rd : ∀ o, (Src.dyn i).at S' k = some o → ∃ xs vs, S'[i]? = some (.lst xs) ∧ H' a = some (.lst vs) ∧ RepVs w ρ' H' xs vs ∧ xs[k]? = o := by
    intro o q
    unfold Src.at at q
    dsimp only at q
    split at q
    · rename_i xs hx
      obtain ⟨vs, h1, h2⟩ := lst_at rs ha hx
      exact ⟨xs, vs, hx, h1, h2, Option.some.inj q⟩
    · cases q
  refine ⟨fun q => ?_, fun x q => ?_⟩
  · obtain ⟨xs, vs, h1, h2, h3, h4⟩ := rd _ q
    exact ⟨vs, SqL.of h2, by rw [h3.length]; exact List.getElem?_eq_none_iff.mp h4⟩
  · obtain ⟨xs, vs, h1, h2, h3, h4⟩ := rd _ q
    obtain ⟨v, h5, h6⟩ := h3.get h4
    refine ⟨⟨vs, v, SqL.of h2, h5⟩, fun u H2 y => ?_⟩
    obtain ⟨rfl, y⟩ := y
    have e := y vs (SqL.of h2)
    rw [h5] at e
    cases e
    exact ⟨Ext.refl _ _, h6, rs⟩
theorem src_str {y : Str} : SrcOk w ρ H (.stat (signs y)) (Its y) := by
  intro ρ' H' S' e rs k
  have hk : (signs y)[k]? = (y.cps[k]?).map fun c => .str ⟨#[c]⟩ := by
    unfold signs
    rw [List.getElem?_map, Array.getElem?_toList]
  refine ⟨fun q => ?_, fun x q => ?_⟩
  · have q : (signs y)[k]? = none := Option.some.inj q
    rw [hk] at q
    cases z : y.cps[k]? with
    | none => exact Array.getElem?_eq_none_iff.mp z
    | some c => rw [z] at q; cases q
  · have q : (signs y)[k]? = some x := Option.some.inj q
    rw [hk] at q
    cases z : y.cps[k]? with
    | none => rw [z] at q; cases q
    | some c =>
      rw [z] at q
      refine ⟨(Array.getElem?_eq_some_iff.mp z).1, fun u H2 yl => ?_⟩
      obtain ⟨rfl, c', h1, rfl⟩ := yl
      rw [z] at h1
      cases h1
      have e : x = .str ⟨#[c]⟩ := (Option.some.inj q).symm
      subst e
      exact ⟨Ext.refl _ _, by simp [RepV], rs⟩
theorem src_range {lo : Int} {n : Nat} : SrcOk w ρ H (.stat (upTo lo n)) (Itr lo n) := by
  intro ρ' H' S' e rs k
  have hk : (upTo lo n)[k]? = if k < n then some (.int (lo + (k : Nat))) else none := by
    unfold upTo
    rw [List.getElem?_map]
    by_cases c : k < n
    · rw [if_pos c, List.getElem?_range c]; rfl
    · rw [if_neg c, List.getElem?_eq_none (by simpa using c)]; rfl
  refine ⟨fun q => ?_, fun x q => ?_⟩
  · have q : (upTo lo n)[k]? = none := Option.some.inj q
    rw [hk] at q
    split at q
    · cases q
    · show n ≤ k; omega
  · have q : (upTo lo n)[k]? = some x := Option.some.inj q
    rw [hk] at q
    split at q
    · rename_i c
      refine ⟨c, fun u H2 yl => ?_⟩
      obtain ⟨rfl, rfl⟩ := yl
      have e := Option.some.inj q
      subst e
      exact ⟨Ext.refl _ _, by simp [RepV], rs⟩
    · cases q
end

section
variable {w : Wd} {T : Tab} {fuel k : Nat} {N : List Str} {ow sc : Scope} {W : WX} {X : Cx} {tg : Expr}
theorem di_val (G : Good w T fuel k N ow sc W X) {e : Expr} {m : Env → M Val} (h : DE w W X e m) : DI w W X tg e (fun env => do let x ← m env; srcV x) := by
  obtain ⟨t, pt, q⟩ := h.ex
  refine ⟨_, pi_val pt, fun ρ σ H env S R re rs p => ?_⟩
  refine q ρ σ H env S _ re rs (p.bind.imp fun x H1 ⟨u, ρ1, S1, e1, r1, s1, p1⟩ => ?_)
  unfold srcV at p1
  rw [G.hK]
  cases u <;> dsimp only at p1 <;> first | exact p1.elim | skip
  · simp only [RepV] at r1
    exact .inr (.inr ⟨_, r1, p1.ok src_str s1⟩)
  · simp only [RepV] at r1
    obtain ⟨a, vs, rfl, h1, h2⟩ := r1
    exact .inr (.inl ⟨a, rfl, ⟨vs, h1.sq⟩, p1.ok (src_tup h1 h2) s1⟩)
  · simp only [RepV] at r1
    obtain ⟨a, rfl, h1⟩ := r1
    exact .inl ⟨a, rfl, ⟨_, h1.sq⟩, p1.ok (src_scr h1) s1⟩
  · simp only [RepV] at r1
    obtain ⟨a, rfl, h1⟩ := r1
    split at p1
    · rename_i xs hx
      obtain ⟨vs, h2, h3⟩ := lst_at s1 h1 hx
      exact .inl ⟨a, rfl, ⟨vs, SqL.of h2⟩, p1.ok (src_lst h1) s1⟩
    · exact p1.elim
theorem di_range1 (G : Good w T fuel k N ow sc W X) {e : Expr} {m : Env → M Val} {p pos : Pos} (hg : glB sc "range" = true) (hm : ("range" : Str) ∈ T.blts) (hs : ∀ x p, e ≠ .Starred x p) (h : DE w W X e m) :
    DI w W X tg (.Call (.Name "range" p) [e] [] pos) (fun env => do
      let x ← m env
      match x with
      | .int i => rangeV 0 i
      | _ => stuck) := by
  obtain ⟨t, pt, q⟩ := h.ex
  refine ⟨_, pi_range1 (gl_of G hg) (G.blts _ hm) (pa_cons pt pa_nil (star_cons hs)) (star_cons hs), fun ρ σ H env S R re rs p => ?_⟩
  refine q ρ σ H env S _ re rs (p.bind.imp fun x H1 ⟨u, ρ1, S1, e1, r1, s1, p1⟩ => ?_)
  cases u <;> dsimp only at p1 <;> first | exact p1.elim | skip
  rename_i i
  simp only [RepV] at r1
  subst r1
  unfold rangeV at p1
  split at p1
  · rename_i hz
    simp only [Bool.and_eq_true, decide_eq_true_eq] at hz
    refine ⟨i, rfl, hz.1.2, hz.2, ?_⟩
    have := p1.ok (src_range (w := w) (ρ := ρ1) (H := H1)) s1
    simpa using this
  · exact p1.elim
theorem di_range2 (G : Good w T fuel k N ow sc W X) {e e' : Expr} {m m' : Env → M Val} {p pos : Pos} (hg : glB sc "range" = true) (hm : ("range" : Str) ∈ T.blts) (hs : ∀ x p, e ≠ .Starred x p) (hs' : ∀ x p, e' ≠ .Starred x p) (h : DE w W X e m) (h' : DE w W X e' m') :
    DI w W X tg (.Call (.Name "range" p) [e, e'] [] pos) (fun env => do
      let x ← m env
      let y ← m' env
      match x, y with
      | .int i, .int j => rangeV i j
      | _, _ => stuck) := by
  obtain ⟨t, pt, q⟩ := h.ex
  obtain ⟨t', pt', q'⟩ := h'.ex
  refine ⟨_, pi_range2 (gl_of G hg) (G.blts _ hm) (pa_cons pt (pa_cons pt' pa_nil (star_cons hs')) (star_cons hs)) (by rw [star_cons hs, star_cons hs']; rfl) (star_cons hs'), fun ρ σ H env S R re rs p => ?_⟩
  refine q ρ σ H env S _ re rs (p.bind.imp fun x H1 ⟨u, ρ1, S1, e1, r1, s1, p1⟩ => ?_)
  refine q' ρ1 σ H1 env S1 _ (re.ext e1) s1 (p1.bind.imp fun y H2 ⟨v, ρ2, S2, e2, r2, s2, p2⟩ => ?_)
  cases u <;> cases v <;> dsimp only at p2 <;> first | exact p2.elim | skip
  simp only [RepV] at r1 r2
  subst r1 r2
  unfold rangeV at p2
  split at p2
  · rename_i hz
    simp only [Bool.and_eq_true, decide_eq_true_eq] at hz
    refine ⟨_, _, rfl, ⟨hz.1.1.1, hz.1.1.2, hz.1.2, hz.2⟩, p2.ok src_range s2⟩
  · exact p2.elim

end

/-! ### comprehensions -/
section
variable {w : Wd} {T : Tab} {fuel k : Nat} {N : List Str} {ow sc : Scope} {W : WX} {X : Cx} {tg : Expr}
def WF : WX := fun _ _ _ _ => False
theorem wipe_eq {σ σ' : L2.St} {is : List Nat} (hl : σ'.length = σ.length) : ∀ {own : List Nat}, (∀ i, i ∉ is → σ'[i]? = σ[i]?) → (∀ i ∈ is, i ∈ own) → wipe σ' own = wipe σ own := by
  intro own h ho
  apply List.ext_getElem?
  intro i
  by_cases c : i ∈ own
  · have key : ∀ (τ : L2.St) (vs : List Nat), i ∈ vs → (wipe τ vs)[i]? = if i < τ.length then some none else none := by
      intro τ vs
      induction vs with
      | nil => intro z; cases z
      | cons v vs ih =>
        intro z
        unfold wipe
        by_cases hv : v = i
        · subst hv
          by_cases hl : v < τ.length
          · rw [if_pos hl, List.getElem?_set_self (by rw [wipe_length]; exact hl)]
          · rw [if_neg hl, List.getElem?_eq_none (by rw [List.length_set, wipe_length]; omega)]
        · rw [List.getElem?_set_ne hv]
          rcases List.mem_cons.mp z with z | z
          · exact absurd z.symm hv
          · exact ih z
    rw [key _ _ c, key _ _ c, hl]
  · rw [wipe_out c, wipe_out c]
    exact h i fun z => c (ho i z)
theorem good_blk (G : Good w T fuel k N ow sc W X) (s : Shared) (H : Hp) (scope : Scope) (cl : List (Str × Addr)) (C : Addr) (fp : List Addr) :
    Good w T fuel k N scope (relS scope sc) WF (X.blk s H scope (compEnvC scope cl C X.env) fp) where
  hN := G.hN
  nd := G.nd
  hsc := by rw [← G.hsc]; rfl
  hK := G.hK
  calm := G.calm
  room := G.room
  grd := G.grd
  tk := fun u s' h => by
    obtain ⟨_, _, _, _, _, _, _, _, _, _, _, _, _, _, _, _, h⟩ := h
    exact h.elim
  hst := fun x h => by
    unfold stB at h
    have e : (X.blk s H scope (compEnvC scope cl C X.env) fp).env.scope = relS scope sc := by rw [← G.hsc]; rfl
    rw [e]
    split at h
    · rename_i q
      exact ⟨.inl q, .inr q⟩
    · rename_i q
      split at h
      · rename_i q2
        exact ⟨.inr q, .inl (by show (scope.names.lookup x == some NameKind.cell) = true; rw [q2]; rfl)⟩
      · cases h
    · cases h
  fns := G.fns
  globs := G.globs
  gds := G.gds
  blts := G.blts
  cls := G.cls
  ca := G.ca
  isi := G.isi
theorem pts_of {ifs : List Expr} {mk : Env → M Bool} (h : (ifs = [] ∧ mk = fun _ => pure true) ∨ ∃ c, ifs = [c] ∧ DT w W X c mk) : PTs X ifs (ttOf w W mk) := by
  rcases h with ⟨rfl, rfl⟩ | ⟨c, rfl, h⟩
  · refine ⟨fun pins s σ H Q I hq => pts_nil.run pins s σ H Q I ?_⟩
    obtain ⟨ρ, env, S, _, rs, p⟩ := hq
    exact p.ok rfl rs
  · exact pts_one h.pt
def Res.onOk {α β : Type} (r : Res α) (f : α → Store → Res β) : Res β := match r with
  | .ok a S => f a S
  | _ => .bad
theorem noExc_bind {α β : Type} (m : M α) (f : α → M β) (S : Store) : (noExc m >>= f) S = (m S).onOk f := by
  rw [bind_app]
  unfold noExc Res.onOk
  cases m S <;> rfl
theorem compLoop_eq (src : Src) (put : Store → Val → Option Env) (keep : Env → M Bool) (elt : Env → M Val) (m i : Nat) (acc : List Val) (S : Store) : compLoop src put keep elt m i acc S = match src.at S i with
    | none => .bad
    | some none => .ok acc S
    | some (some x) => match m with
      | 0 => .bad
      | n + 1 => match put S x with
        | none => .bad
        | some env => (keep env >>= fun c => if c then (elt env >>= fun v => need (decide (acc.length < sizeMax)) >>= fun _ => compLoop src put keep elt n (i + 1) (acc ++ [v]))
            else compLoop src put keep elt n (i + 1) acc) S := by
  cases m <;> (conv => lhs; unfold compLoop) <;> cases src.at S i with | none => rfl | some o => cases o <;> rfl
/-- what a target stores, one reading for every context -/
def gOf (w : Wd) (t : IT) : TG := fun v σ H Q => ∃ ρ S env env' x, RepE w ρ H env σ ∧ RepV w ρ H x v ∧ RepS w ρ H S ∧ evT S t x env = some env' ∧ ∀ σ', RepE w ρ H env' σ' → σ'.length = σ.length → (∀ i, i ∉ slotsT t → σ'[i]? = σ[i]?) → Q σ' H
theorem pg_of (G : Good w T fuel k N ow sc W X) {t : IT} (ht : chkT T N ow sc t tg = true) : PG X tg (gOf w t) := by
  obtain ⟨g, pg, qg⟩ := (dg_of G t tg ht).ex
  refine ⟨fun pins s' σ H v u Q I r ⟨ρ, S, env, env', x, r1, r2, r3, r4, hq⟩ => pg.run pins s' σ H v u Q I r ?_⟩
  obtain ⟨σ', a1, a2, a3, a4⟩ := qg ρ σ H env x v S env' r1 r2 r3 r4
  exact a4 _ (hq σ' a1 a2 a3)
def compM (mi : Env → M Src) (own : List Nat) (t : IT) (mk : Env → M Bool) (me : Env → M Val) : Env → M Val := fun env => do
  let src ← mi env
  let env' := envDels env own
  let xs ← noExc fun S => compLoop src (fun S x => evT S t x env') mk me (src.len S) 0 [] S
  alloc (.lst xs)
theorem lc_ok {own : List Nat} {t : IT} {mi : Env → M Src} {mk : Env → M Bool} {me : Env → M Val} {ti : TI}
    (ho : ∀ i ∈ slotsT t, i ∈ own) (qi : ∀ ρ σ H env S (R : It → Hp → Prop), RepE w ρ H env σ → RepS w ρ H S → Post w W σ (SrcOk w) ρ H (mi env S) R → ti σ H R)
    {ρ : List Addr} {σ : L2.St} {H : Hp} {env : Env} {S : Store} {Q : VK} (re : RepE w ρ H env σ) (rs : RepS w ρ H S) (p : Post w W σ (RepV w) ρ H (compM mi own t mk me env S) Q) :
    tLc ti (gOf w t) (ttOf w WF mk) (tOf w WF me) own σ H Q := by
  unfold compM at p
  refine qi ρ σ H env S _ re rs (p.bind.imp fun J H1 ⟨src, ρ1, S1, e1, r1, s1, p1⟩ D hD => ?_)
  have re1 := (re.ext e1).dels own
  have p1 := (congrArg (fun r => Post w W σ (RepV w) ρ1 H1 r Q) (noExc_bind (fun S => compLoop src (fun S x => evT S t x (envDels env own)) mk me (src.len S) 0 [] S) (fun xs => alloc (.lst xs)) S1)).mp p1
  generalize envDels env own = env' at p1 re1
  refine ⟨fun i m H' => ∃ ρk Sk acc vs, Ext ρ1 H1 ρk H' ∧ RepS w ρk H' Sk ∧ D ∉ ρk ∧ H' D = some (.lst vs) ∧ RepVs w ρk H' acc vs ∧
    Post w W σ (RepV w) ρ1 H1 ((compLoop src (fun S x => evT S t x env') mk me m i acc Sk).onOk fun xs => alloc (.lst xs)) Q, ⟨src.len S1, ρ1, S1, [], [], Ext.new s1 hD, s1.new hD, s1.none_out hD, upd_same, by simp [RepVs], p1⟩, ?_⟩
  rintro i m H2 ⟨ρk, Sk, acc, vs, ek, sk, nD, hDk, rk, pk⟩
  rw [compLoop_eq] at pk
  obtain ⟨go1, go2⟩ := r1 ρk H2 Sk ek.wk sk i
  cases qa : src.at Sk i with
  | none => rw [qa] at pk; exact pk.elim
  | some o =>
    rw [qa] at pk
    cases o with
    | none =>
      refine .inl ⟨go1 qa, ?_⟩
      dsimp only at pk
      refine pk (.ref D) (ρk ++ [D]) H2 (ek.adopt hD) ?_ (sk.adopt hDk bare_lst nD ⟨_, rfl, rk⟩)
      · simp only [RepV]
        exact ⟨D, rfl, by rw [← sk.len]; simp⟩
    | some x =>
      obtain ⟨go, gy⟩ := go2 x qa
      dsimp only at pk
      cases m with
      | zero => exact pk.elim
      | succ n =>
        dsimp only at pk
        cases qp : evT Sk t x env' with
        | none => rw [qp] at pk; exact pk.elim
        | some env2 =>
          rw [qp] at pk
          refine .inr ⟨go, _, fun H' nx => ⟨n, Nat.lt_succ_self n, nx⟩, fun v H3 yl => ?_⟩
          obtain ⟨ey, rv, sy⟩ := gy v H3 yl
          have ek3 := ek.trans ey
          have hD3 := ey.oth D _ hDk nD
          refine ⟨ρk, Sk, env', env2, x, re1.ext ek3, rv, sy, qp, fun σ2 re2 hl hσ => ⟨(wipe_eq hl hσ ho).trans (wipe_eq (is := own) (wipe_length _ _) (fun i hi => wipe_out hi) fun i hi => hi), ρk, env2, Sk, re2, sy, ?_⟩⟩
          dsimp only at pk
          rw [bind_app] at pk
          cases qk : mk env2 Sk with
          | bad => rw [qk] at pk; exact pk.elim
          | exc y S' => rw [qk] at pk; exact pk.elim
          | ok c S2 =>
            rw [qk] at pk
            dsimp only at pk
            refine fun b ρ4 H4 e4 hb s4 => ?_
            subst hb
            have hD4 := e4.oth D _ hD3 nD
            have nD4 := e4.out hD3 nD
            have ek4 := ek3.trans e4
            cases c with
            | false =>
              rw [if_neg Bool.false_ne_true] at pk ⊢
              exact ⟨ρ4, S2, acc, vs, ek4, s4, nD4, hD4, (rk.ext ey).ext e4, pk⟩
            | true =>
              rw [if_pos rfl] at pk ⊢
              refine ⟨ρ4, env2, S2, re2.ext e4, s4, ?_⟩
              rw [bind_app] at pk
              cases qe : me env2 S2 with
              | bad => rw [qe] at pk; exact pk.elim
              | exc y S' => rw [qe] at pk; exact pk.elim
              | ok u S3 =>
                rw [qe] at pk
                dsimp only at pk
                refine fun y ρ5 H5 e5 ry s5 => ?_
                have hD5 := e5.oth D _ hD4 nD4
                have nD5 := e5.out hD4 nD4
                have ek5 := ek4.trans e5
                rw [bind_app, need_app] at pk
                by_cases hz : acc.length < sizeMax
                · rw [if_pos (by simpa using hz)] at pk
                  dsimp only at pk
                  have rk5 := ((rk.ext ey).ext e4).ext e5
                  refine ⟨vs, hD5, by rw [rk5.length, ← size_eq]; exact hz, ρ5, S3, acc ++ [u], vs ++ [y], ek5.own hD _, s5.own hD5 bare_lst nD5, nD5, upd_same, (rk5.append (by simp only [RepVs]; exact ⟨y, [], rfl, ry, rfl⟩)).own hD5 bare_lst, pk⟩
                · rw [if_neg (by simpa using hz)] at pk
                  exact pk.elim
/-- a comprehension -/
theorem de_comp (G : Good w T fuel k N ow sc W X) {elt tg iter : Expr} {ifs : List Expr} {scope : Scope} {own : List (Str × Nat)} {pos : Pos} {t : IT} {mi : Env → M Src} {mk : Env → M Bool} {me : Env → M Val}
    (ok : BlkOk N sc scope own) (hi : DI w W X tg iter mi) (ht : chkT T N scope (relS scope sc) t tg = true) (ho : ∀ i ∈ slotsT t, i ∈ own.map (·.2))
    (hk : ∀ X', Good w T fuel k N scope (relS scope sc) WF X' → (ifs = [] ∧ mk = fun _ => pure true) ∨ ∃ c, ifs = [c] ∧ DT w WF X' c mk) (he : ∀ X', Good w T fuel k N scope (relS scope sc) WF X' → DE w WF X' elt me)
    (hs : ∀ x, foldedSetIterable iter X.env x = pure x) :
    DE w W X (.ListComp elt [⟨tg, iter, ifs, 0⟩] scope pos) (compM mi (own.map (·.2)) t mk me) := by
  obtain ⟨ti, pi, qi⟩ := hi.ex
  have B := fun s H C cl fp => good_blk G s H scope cl C fp
  exact ⟨_, pe_lc (g := gOf w t) (tt := ttOf w WF mk) (te := tOf w WF me) G.calm G.nd pi (by rw [G.hN, G.hsc]; exact ok) (fun s H C cl fp => pg_of (B s H C cl fp) ht)
    (fun s H C cl fp => pts_of (hk _ (B s H C cl fp))) (fun s H C cl fp => (he _ (B s H C cl fp)).pe) hs, fun ρ σ H env S Q re rs p => lc_ok ho qi re rs p⟩
end
end Pd

/-! Pd: enumerate over a list or a tuple; a range downwards. -/
namespace Pd
open PySem PySem.Spec L2

set_option maxHeartbeats 1000000 in
theorem meets_enum1 {v : Value} {o : Obj} {C : Heap → Prop} (B : Begins v o C) :
    Meets (Builtin.«enumerate.__new__» ⟨[.type "enumerate", v], []⟩) (fun _ R s => C s.heap ∧
      R (.ok (.ret (.ref (s.heap.push o).objs.size))) { s with heap := (s.heap.push o).push { cls := .type "enumerate", data := .fields #[.none, .bool false, .ref s.heap.objs.size, rawInt 0, .none, .none] } }) :=
  .of_wp fun prog w A R s h => by
    obtain ⟨hp, g, d, tk, os⟩ := s
    obtain ⟨h1, h⟩ := h
    have hsub := sub_enumerate
    have q1 : ∀ {A' : Around} {E : Value → Shared → Prop} {Q : Value → Shared → Prop}, Q (.ref hp.objs.size) ⟨hp.push o, g, d, tk, os⟩ → wpAny (model prog w) A' (pyIter v) Q E ⟨hp, g, d, tk, os⟩ := fun q => B.iter prog w _ _ ⟨hp, g, d, tk, os⟩ _ h1 q
    wp_walk using q1
    refine wpAny_stack_any fun st => wpAny_pure ?_
    split
    · rename_i c _ _ _ _ _
      cases (c == Value.type "enumerate")
      · wp_walk using q1
        exact ⟨_, rfl, h⟩
      · wp_walk using q1
        exact ⟨_, rfl, h⟩
    · wp_walk using q1
      exact ⟨_, rfl, h⟩
section
variable {prog : Program} {w : World} {A : Around} {E : Value → Shared → Prop} {s : Shared}
/-- enumerate(v): its two cells -/
theorem call_enum1 {v : Value} {o : Obj} {C : Heap → Prop} {Q : Value → Shared → Prop} (B : Begins v o C) (h1 : C s.heap)
    (h : ∀ h', IsEnum h' (s.heap.objs.size + 1) s.heap.objs.size 0 .none → h'.get? s.heap.objs.size = some o → (∀ b u, s.heap.get? b = some u → h'.get? b = some u) → Q (.ref (s.heap.objs.size + 1)) { s with heap := h' }) :
    wpAny (model prog w) A (call (.type "enumerate") [v]) Q E s := by
  refine callType_new F.called_enumerate (by decide) (F.typeCall_enumerate_1 _) (F.newCall_enumerate_1 _) (fun obj => F.args_object_init_2 obj _) F.entry_enumerate_new (meets_enum1 B) ⟨h1, ?_⟩
  have hz : (s.heap.push o).objs.size = s.heap.objs.size + 1 := Heap.size_push ..
  have he : IsEnum ((s.heap.push o).push { cls := .type "enumerate", data := .fields #[.none, .bool false, .ref s.heap.objs.size, rawInt 0, .none, .none] }) (s.heap.objs.size + 1) s.heap.objs.size 0 .none := by
    have z := Heap.get?_push_size (s.heap.push o) (o := { cls := .type "enumerate", data := .fields #[.none, .bool false, .ref s.heap.objs.size, rawInt 0, .none, .none] }) rfl
    rw [hz] at z
    exact z
  show _ ∧ _
  rw [hz]
  exact ⟨⟨_, he, rfl⟩, h _ he (Heap.get?_push_of_some _ (Heap.get?_push_size _ B.free)) fun b u x => Heap.get?_push_of_some _ (Heap.get?_push_of_some _ x)⟩
end

/-! ### the pairs of a tuple -/
/-- the tuple at a, each item in a new pair -/
def IteT (K : PySem.W.Frag) (a : Addr) : It :=
  ⟨fun i H => ∃ (xs : List V) (x : V), SqT K H a xs ∧ xs[i]? = some x, fun i H v H' => ∃ T x, v = .ref T ∧ H T = none ∧ H' = upd H T (.tup [.int (i : Nat), x]) ∧ ∀ xs, SqT K H a xs → xs[i]? = some x, fun i H => ∃ xs : List V, SqT K H a xs ∧ xs.length ≤ i⟩
theorem tup_not_it {h : Heap} {a it : Addr} {i : Nat} {items : Array Value} (h1 : h.IsTupleIter it a i) (h2 : h.IsTuple a items) : a ≠ it := fun z => by
  subst z
  obtain ⟨o, e, c, _⟩ := h1
  obtain ⟨o', e', c', _⟩ := h2
  rw [e] at e'
  cases e'
  rw [c] at c'
  exact absurd c' (by decide)
theorem tup_not_en {h : Heap} {a e it : Addr} {i : Int} {old : Value} {items : Array Value} (h1 : IsEnum h e it i old) (h2 : h.IsTuple a items) : a ≠ e := fun z => by
  subst z
  obtain ⟨o', e', c', _⟩ := h2
  have h1 : h.get? a = some _ := h1
  rw [h1] at e'
  cases e'
  have c2 : Value.type "enumerate" = .type "tuple" := c'
  exact absurd c2 (by decide)
/-- an iterator that has come to its end -/
theorem spent {prog : Program} {w : World} {A : Around} (hh : A.handled = none) (it a : Addr) (hne : a ≠ it) (items : Array Value) (i : Nat) (hi : items.size ≤ i) :
    Draws prog w A it [it, a] i (fun _ _ => False) (fun j h => h.IsTupleIter it a j ∧ h.IsTuple a items ∧ j = i) where
  live := fun j h st => let ⟨o, ho, _⟩ := st.1; ⟨o, ho⟩
  frame := fun j h h' st hk => ⟨st.1.at fun o e => hk it (by simp) o e, st.2.1.at fun o e => hk a (by simp) o e, st.2.2⟩
  item := fun j s Q E hj st hQ => absurd st.2.2 (Nat.ne_of_lt hj)
  done := fun s Q E st hE => wpAny_nextOf_tuple_end hh st.1 st.2.1 (Array.getElem?_eq_none hi) hE
theorem turn_enumT {P : Program} {w : World} {K : PySem.W.Frag} {elts : List Expr} {kk : Nat} {tpos : Pos} (a e it : Addr) :
    Turn P w K (.Tuple elts kk tpos) (IteT K a) [e, it] e (fun i h => (∃ old, IsEnum h e it ((i : Nat) : Int) old) ∧ h.IsTupleIter it a i ∧ e ≠ it) where
  mem := by simp
  obj := fun i h st b hb => by
    obtain ⟨⟨old, he⟩, ⟨o, ho, hc, hd⟩, _⟩ := st
    have e' : b = e ∨ b = it := by simpa using hb
    rcases e' with z | z
    · rw [z]; exact ⟨_, he, fun v q => nomatch q⟩
    · rw [z]; exact ⟨o, ho, fun v q => by rw [hd] at q; cases q⟩
  keep := fun i h h' st k => let ⟨⟨old, he⟩, hi, hne⟩ := st; ⟨⟨old, k e (by simp) _ he⟩, hi.at fun o q => k it (by simp) o q, hne⟩
  item := by
    intro X hP hw hK hc i pins s σ H E I hf st hg
    subst hP hw hK
    obtain ⟨⟨old, he⟩, hit, hne⟩ := st
    obtain ⟨xs, x, hq, hx⟩ := hg
    obtain ⟨its, rv, p, hz⟩ := I.tuple hq
    obtain ⟨u, hu, ru⟩ := rv.get hx
    have hT : s.heap.IsTuple a its.toArray := p
    have hai := tup_not_it hit hT
    have hae := tup_not_en he hT
    have hel : e < s.heap.objs.size := Heap.lt_size he
    have hil : it < s.heap.objs.size := by obtain ⟨_, q, _⟩ := hit; exact Heap.lt_size q
    have hlt : i < its.toArray.size := by
      have := (List.getElem?_eq_some_iff.mp hu).1
      simpa using this
    have D := Draws.tuple (prog := X.prog) (w := X.w) (A := X.A.in1) (I.ok.hd hc) it a hai its.toArray
    refine wpAny_pyNext_enum_itemD D he ⟨hit, hT⟩ hlt hne (by simp [hne, hae.symm]) fun x' h' tk hx' ho st' hT' hsz hk => ?_
    have ex : x' = u := by
      have h1 : its.toArray[i]? = some x' := hx'
      have h2 : its.toArray[i]? = some u := by simpa using hu
      rw [h2] at h1
      exact (Option.some.inj h1).symm
    subst ex
    refine ⟨_, rfl, wpAny_letOwnedTupleGo_enum (s := { s with heap := h', toks := tk + 1 }) ho fun h'' he' sb => ?_⟩
    have hT2 : h''.get? s.heap.objs.size = some { cls := .type "tuple", data := .seq #[.int i tk, x'] } := (sb.2 _ (Nat.ne_of_gt hel)).trans hT'
    have new : ObjOk X.prog X.w (upd H s.heap.objs.size (.tup [.int (i : Nat), x])) h'' s.heap.objs.size (.tup [.int (i : Nat), x]) :=
      ⟨by show 2 ≤ sizeLine; decide, [.int i tk, x'], .cons ⟨_, rfl⟩ (.cons ru .nil), ⟨_, hT2, rfl, _, rfl⟩⟩
    have I1 : Inv X pins σ (upd H s.heap.objs.size (.tup [.int (i : Nat), x])) { s with heap := h'', toks := tk + 1 } :=
      I.turnedNew (ch := [e, it]) (fun b ob hb q => (sb.2 b (fun z => hb (by simp [z]))).trans (hk b ob (fun z => hb (by simp [z])) (fun z => hb (by simp [z])) q)) hf (Nat.le_refl _) new
    refine ⟨.ref s.heap.objs.size, _, I1, rfl, ⟨_, x, rfl, I.hok.fresh (Nat.le_refl _), rfl, fun ys hy => by rw [I.tuple_inj hy hq]; exact hx⟩, ⟨⟨x', ?_⟩, st'.1.at fun o q => (sb.2 it (Ne.symm hne)).trans q, hne⟩, fun b hb => ?_⟩
    · have e1 : ((i + 1 : Nat) : Int) = (i : Int) + 1 := by omega
      rw [e1]; exact he'
    · have hb' : b < s.heap.objs.size := by
        have e' : b = e ∨ b = it := by simpa using hb
        rcases e' with z | z
        · rw [z]; exact hel
        · rw [z]; exact hil
      rw [upd_ne (Nat.ne_of_lt hb')]
      exact (hf b hb).1
  done := by
    intro X hP hw hK hc i pins s σ H E I hf st hg
    subst hP hw hK
    obtain ⟨⟨old, he⟩, hit, hne⟩ := st
    obtain ⟨xs, hq, hx⟩ := hg
    obtain ⟨its, rv, p, hz⟩ := I.tuple hq
    obtain ⟨f0, f1, f2, f3, f4, f5⟩ := hf it (by simp)
    have hT : s.heap.IsTuple a its.toArray := p
    have hl := rv.length
    have D := spent (prog := X.prog) (w := X.w) (A := X.A.in1) (I.ok.hd hc) it a (tup_not_it hit hT) its.toArray i (by simp; omega)
    exact wpAny_pyNext_enum_endD D he ⟨hit, hT, rfl⟩ fun h' eb => ⟨rfl, I.turned (t' := s.toks) (fun b o hb q => eb b o hb q) f0 f1 f3 f4 f5⟩
  self := fun A i s Q E st h => let ⟨⟨_, he⟩, _⟩ := st; wpAny_pyIter_enum he h
def iEnumA (K : PySem.W.Frag) (ta : TA) : TI := fun σ H R => ta σ H fun vs H1 => ∃ a xs, vs = [.ref a] ∧ ((SqL K H1 a xs ∧ R (Ite K a) H1) ∨ (SqT K H1 a xs ∧ R (IteT K a) H1))
theorem pi_enumA {X : Cx} {e : Expr} {ta : TA} {p pos tpos : Pos} {elts : List Expr} {kk : Nat} (hg : Gl X "enumerate") (hm : X.mg "enumerate" = none) (ha : PA X [e] ta) (hs : starEach [e] X.env = [(false, eval e X.env)]) :
    PI X (.Tuple elts kk tpos) (.Call (.Name "enumerate" p) [e] [] pos) (iEnumA X.K ta) := by
  refine ⟨fun pins s σ H R I h => ?_⟩
  refine PyProof.Rows.Call_ (ld_blt I hg hm PyProof.Rows.boot_enumerate (PyProof.Rows.callWith_type1 (thn (ha.run pos pins s σ H _ I h) fun us s1 ⟨vs, H1, I1, r1, q1⟩ => ?_) hs rfl))
  obtain ⟨a, xs, ex, q⟩ := q1
  subst ex
  cases r1 with
  | cons r rr =>
    cases rr
    cases r
    have fpk : ∀ b ∈ [s1.heap.objs.size + 1, s1.heap.objs.size], FpOk X pins H1 b := fun b hb => by
      have e' : b = s1.heap.objs.size + 1 ∨ b = s1.heap.objs.size := by simpa using hb
      have hle : s1.heap.objs.size ≤ b := by
        rcases e' with z | z
        · rw [z]; exact Nat.le_add_right _ _
        · rw [z]; exact Nat.le_refl _
      exact I1.fpOk hle (I1.hok.fresh hle)
    rcases q with ⟨hq, q⟩ | ⟨hq, q⟩
    · obtain ⟨its, rv, p', hz⟩ := I1.list hq
      refine call_enumerate_list p'.isList fun h' he hit hsz hk => wpAny_pyIter_enum he ?_
      have I2 : Inv X pins σ H1 { s1 with heap := h' } := I1.kept (t' := s1.toks) hk
      exact ⟨s1.heap.objs.size + 1, [s1.heap.objs.size + 1, s1.heap.objs.size], _, _, H1, rfl, I2, turn_enum a (s1.heap.objs.size + 1) s1.heap.objs.size, ⟨⟨.none, he⟩, hit, Nat.succ_ne_self _⟩, fpk, q⟩
    · obtain ⟨its, rv, p', hz⟩ := I1.tuple hq
      have hT : s1.heap.IsTuple a its.toArray := p'
      refine call_enum1 (begins_tuple a its.toArray) hT fun h' he hit hk => wpAny_pyIter_enum he ?_
      have I2 : Inv X pins σ H1 { s1 with heap := h' } := I1.kept (t' := s1.toks) hk
      exact ⟨s1.heap.objs.size + 1, [s1.heap.objs.size + 1, s1.heap.objs.size], _, _, H1, rfl, I2, turn_enumT a (s1.heap.objs.size + 1) s1.heap.objs.size, ⟨⟨.none, he⟩, ⟨_, hit, rfl, rfl⟩, Nat.succ_ne_self _⟩, fpk, q⟩

/-! ### as sources -/
section
variable {w : Wd} {ρ : List Addr} {H : Hp} {S : Store}
/-- a new pair -/
theorem pair_new {i : Nat} {x : Val} {v : V} {T : Addr} (rs : RepS w ρ H S) (h : H T = none) (r : RepV w ρ H x v) :
    Ext ρ H ρ (upd H T (.tup [.int (i : Nat), v])) ∧ RepV w ρ (upd H T (.tup [.int (i : Nat), v])) (.tup [.int (i : Nat), x]) (.ref T) ∧ RepS w ρ (upd H T (.tup [.int (i : Nat), v])) S := by
  refine ⟨Ext.new rs h, rep_newtup rs h ?_, rs.new h⟩
  simp only [RepVs, RepV]
  exact ⟨_, _, rfl, rfl, v, [], rfl, r, rfl⟩
theorem src_enS {a : Addr} {xs : List Val} {vs : List V} (h : StT w ρ H a vs) (r : RepVs w ρ H xs vs) : SrcOk w ρ H (.enumS xs) (IteT w.K a) := by
  intro ρ' H' S' e rs k
  have h' := (h.extW e).sq
  have r' := RepVs.extW e _ _ r
  refine ⟨fun q => ⟨vs, h', ?_⟩, fun x q => ?_⟩
  · have q : (xs[k]?.map fun x => Val.tup [.int (k : Nat), x]) = none := Option.some.inj q
    rw [r.length]
    exact List.getElem?_eq_none_iff.mp (Option.map_eq_none_iff.mp q)
  · have q : (xs[k]?.map fun x => Val.tup [.int (k : Nat), x]) = some x := Option.some.inj q
    obtain ⟨y, hy, rfl⟩ := Option.map_eq_some_iff.mp q
    obtain ⟨v, h1, h2⟩ := r'.get hy
    refine ⟨⟨vs, v, h', h1⟩, fun u H2 yl => ?_⟩
    obtain ⟨T, z, rfl, hT, rfl, yl⟩ := yl
    have e := yl vs h'
    rw [h1] at e
    cases e
    exact pair_new rs hT h2
theorem src_enR {a : Addr} {ns : List Int} (h : StL w ρ H a (ns.map V.int)) : SrcOk w ρ H (.enumS (ns.map .int)) (Ite w.K a) := by
  intro ρ' H' S' e rs k
  have h' := (h.extW e).sq
  have r' : RepVs w ρ' H' (ns.map .int) (ns.map V.int) := RepVs.ints ns
  refine ⟨fun q => ⟨_, h', ?_⟩, fun x q => ?_⟩
  · have q : ((ns.map Val.int)[k]?.map fun x => Val.tup [.int (k : Nat), x]) = none := Option.some.inj q
    rw [r'.length]
    exact List.getElem?_eq_none_iff.mp (Option.map_eq_none_iff.mp q)
  · have q : ((ns.map Val.int)[k]?.map fun x => Val.tup [.int (k : Nat), x]) = some x := Option.some.inj q
    obtain ⟨y, hy, rfl⟩ := Option.map_eq_some_iff.mp q
    obtain ⟨v, h1, h2⟩ := r'.get hy
    refine ⟨⟨_, v, h', h1⟩, fun u H2 yl => ?_⟩
    obtain ⟨T, z, rfl, hT, rfl, yl⟩ := yl
    have e := yl _ h'
    rw [h1] at e
    cases e
    exact pair_new rs hT h2
theorem src_enD {a : Addr} {i : Nat} (h : ρ[i]? = some a) : SrcOk w ρ H (.enumD i) (Ite w.K a) := by
  intro ρ' H' S' e rs k
  have ha : ρ'[i]? = some a := by
    obtain ⟨m, rfl, _⟩ := e.pre
    rw [List.getElem?_append_left (List.getElem?_eq_some_iff.mp h).1]; exact h
  have rd : ∀ o, (Src.enumD i).at S' k = some o → ∃ xs vs, S'[i]? = some (.lst xs) ∧ H' a = some (.lst vs) ∧ RepVs w ρ' H' xs vs ∧ (xs[k]?.map fun x => Val.tup [.int (k : Nat), x]) = o := by
    intro o q
    unfold Src.at at q
    dsimp only at q
    split at q
    · rename_i xs hx
      obtain ⟨vs, h1, h2⟩ := lst_at rs ha hx
      exact ⟨xs, vs, hx, h1, h2, Option.some.inj q⟩
    · cases q
  refine ⟨fun q => ?_, fun x q => ?_⟩
  · obtain ⟨xs, vs, h1, h2, h3, h4⟩ := rd _ q
    exact ⟨vs, SqL.of h2, by rw [h3.length]; exact List.getElem?_eq_none_iff.mp (Option.map_eq_none_iff.mp h4)⟩
  · obtain ⟨xs, vs, h1, h2, h3, h4⟩ := rd _ q
    obtain ⟨y, hy, rfl⟩ := Option.map_eq_some_iff.mp h4
    obtain ⟨v, h5, h6⟩ := h3.get hy
    refine ⟨⟨vs, v, SqL.of h2, h5⟩, fun u H2 yl => ?_⟩
    obtain ⟨T, z, rfl, hT, rfl, yl⟩ := yl
    have e := yl vs (SqL.of h2)
    rw [h5] at e
    cases e
    exact pair_new rs hT h6
theorem src_step {lo c : Int} {n : Nat} : SrcOk w ρ H (.stat (stepTo lo c n)) (Itc lo c n) := by
  intro ρ' H' S' e rs k
  have hk : (stepTo lo c n)[k]? = if k < n then some (.int (lo + (k : Nat) * c)) else none := by
    unfold stepTo
    rw [List.getElem?_map]
    by_cases q : k < n
    · rw [if_pos q, List.getElem?_range q]; rfl
    · rw [if_neg q, List.getElem?_eq_none (by simpa using q)]; rfl
  refine ⟨fun q => ?_, fun x q => ?_⟩
  · have q : (stepTo lo c n)[k]? = none := Option.some.inj q
    rw [hk] at q
    split at q
    · cases q
    · show n ≤ k; omega
  · have q : (stepTo lo c n)[k]? = some x := Option.some.inj q
    rw [hk] at q
    split at q
    · rename_i z
      refine ⟨z, fun u H2 yl => ?_⟩
      obtain ⟨rfl, rfl⟩ := yl
      have e := Option.some.inj q
      subst e
      exact ⟨Ext.refl _ _, by simp [RepV], rs⟩
    · cases q
end
section
variable {w : Wd} {T : Tab} {fuel k : Nat} {N : List Str} {ow sc : Scope} {W : WX} {X : Cx} {tg : Expr}
theorem di_enum (G : Good w T fuel k N ow sc W X) {e : Expr} {m : Env → M Val} {p pos tpos : Pos} {elts : List Expr} {kk : Nat} (hg : glB sc "enumerate" = true) (hm : ("enumerate" : Str) ∈ T.blts) (hs : ∀ x p, e ≠ .Starred x p) (h : DE w W X e m) :
    DI w W X (.Tuple elts kk tpos) (.Call (.Name "enumerate" p) [e] [] pos) (fun env => do let x ← m env; enumV x) := by
  obtain ⟨t, pt, q⟩ := h.ex
  refine ⟨_, pi_enumA (gl_of G hg) (G.blts _ hm) (pa_cons pt pa_nil (star_cons hs)) (star_cons hs), fun ρ σ H env S R re rs p => ?_⟩
  refine q ρ σ H env S _ re rs (p.bind.imp fun x H1 ⟨u, ρ1, S1, e1, r1, s1, p1⟩ => ?_)
  unfold enumV at p1
  show ∃ a xs, [x] = [.ref a] ∧ _
  rw [G.hK]
  cases u <;> dsimp only at p1 <;> first | exact p1.elim | skip
  · simp only [RepV] at r1
    obtain ⟨a, vs, rfl, h1, h2⟩ := r1
    exact ⟨a, vs, rfl, .inr ⟨h1.sq, p1.ok (src_enS h1 h2) s1⟩⟩
  · simp only [RepV] at r1
    obtain ⟨a, rfl, h1⟩ := r1
    exact ⟨a, _, rfl, .inl ⟨h1.sq, p1.ok (src_enR h1) s1⟩⟩
  · simp only [RepV] at r1
    obtain ⟨a, rfl, h1⟩ := r1
    split at p1
    · rename_i xs hx
      obtain ⟨vs, h2, h3⟩ := lst_at s1 h1 hx
      exact ⟨a, vs, rfl, .inl ⟨SqL.of h2, p1.ok (src_enD h1) s1⟩⟩
    · exact p1.elim
theorem di_range3 (G : Good w T fuel k N ow sc W X) {e e' e2 : Expr} {m m' m2 : Env → M Val} {p pos : Pos} (hg : glB sc "range" = true) (hm : ("range" : Str) ∈ T.blts) (hs : ∀ x p, e ≠ .Starred x p) (hs' : ∀ x p, e' ≠ .Starred x p) (hs2 : ∀ x p, e2 ≠ .Starred x p)
    (h : DE w W X e m) (h' : DE w W X e' m') (h2 : DE w W X e2 m2) :
    DI w W X tg (.Call (.Name "range" p) [e, e', e2] [] pos) (fun env => do
      let x ← m env
      let y ← m' env
      let z ← m2 env
      match x, y, z with
      | .int i, .int j, .int k => range3V i j k
      | _, _, _ => stuck) := by
  obtain ⟨t, pt, q⟩ := h.ex
  obtain ⟨t', pt', q'⟩ := h'.ex
  obtain ⟨t2, pt2, q2⟩ := h2.ex
  refine ⟨_, pi_range3 (gl_of G hg) (G.blts _ hm) (pa_cons pt (pa_cons pt' (pa_cons pt2 pa_nil (star_cons hs2)) (star_cons hs')) (star_cons hs)) (star_cons hs) (by rw [star_cons hs', star_cons hs2]; rfl), fun ρ σ H env S R re rs p => ?_⟩
  refine q ρ σ H env S _ re rs (p.bind.imp fun x H1 ⟨u, ρ1, S1, e1, r1, s1, p1⟩ => ?_)
  refine q' ρ1 σ H1 env S1 _ (re.ext e1) s1 (p1.bind.imp fun y H2 ⟨v, ρ2, S2, e2, r2, s2, p2⟩ => ?_)
  refine q2 ρ2 σ H2 env S2 _ ((re.ext e1).ext e2) s2 (p2.bind.imp fun z H3 ⟨v3, ρ3, S3, e3, r3, s3, p3⟩ => ?_)
  cases u <;> cases v <;> cases v3 <;> dsimp only at p3 <;> first | exact p3.elim | skip
  simp only [RepV] at r1 r2 r3
  subst r1 r2 r3
  unfold range3V at p3
  split at p3
  · rename_i hz
    simp only [Bool.and_eq_true, decide_eq_true_eq] at hz
    obtain ⟨⟨⟨⟨rfl, h1⟩, h2⟩, h3⟩, h4⟩ := hz
    exact ⟨_, _, _, _, rfl, RgC.neg h1 h2 h3 h4, p3.ok src_step s3⟩
  · exact p3.elim
end
end Pd

/-! Pd: zip(a, b, strict=True) in the machine. -/
namespace Pd
open PySem PySem.Spec L2

abbrev kwS : List (Str × Value) := [(Str.ofString "strict", .bool true)]
theorem tc_zs (a b : Value) : checkTypeCall "zip" ⟨[a, b], kwS⟩ = pure () := by kernel_rfl
theorem nc_zs (a b : Value) : checkBuiltinCall "zip.__new__" ⟨[.type "zip", a, b], kwS⟩ = pure () := by kernel_rfl
theorem ai_zs (obj a b : Value) : argsOk "object.__init__" ⟨[obj, a, b], kwS⟩ := by unfold argsOk; kernel_rfl
abbrev ZsAt (h : Heap) (z TI TO : Addr) (f0 : Value) : Prop :=
  h.get? z = some { cls := .type "zip", dict := none, data := .fields #[f0, .bool false, .bool true, .ref TI, .ref TO], slots := #[] }
abbrev zsH (h : Heap) (o1 o2 : Obj) : Heap :=
  (gzO2 h o1 o2).push { cls := .type "zip", data := .fields #[.none, .bool false, .bool true, .ref ((h.push o1).push o2).objs.size, .ref (gzT2 h o1 o2).objs.size] }
set_option maxHeartbeats 1000000 in
theorem meets_zs {v1 v2 : Value} {o1 o2 : Obj} {C1 C2 : Heap → Prop} (B1 : Begins v1 o1 C1) (B2 : Begins v2 o2 C2) :
    Meets (Builtin.«zip.__new__» ⟨[.type "zip", v1, v2], kwS⟩) (fun _ R s => (C1 s.heap ∧ C2 s.heap) ∧
      R (.ok (.ret (.ref (gzO2 s.heap o1 o2).objs.size))) { s with heap := zsH s.heap o1 o2 }) :=
  .of_wp fun prog w A R s hyp => by
    obtain ⟨hp, g, d, tk, os⟩ := s
    obtain ⟨⟨c1, c2⟩, hyp⟩ := hyp
    have hsub := sub_zip
    have r1 : ∀ {A' : Around} {E : Value → Shared → Prop} {Q : Value → Shared → Prop}, Q (.ref hp.objs.size) ⟨hp.push o1, g, d, tk, os⟩ → wpAny (model prog w) A' (pyIter v1) Q E ⟨hp, g, d, tk, os⟩ :=
      fun q => B1.iter prog w _ _ ⟨hp, g, d, tk, os⟩ _ c1 q
    have r2 : ∀ {A' : Around} {E : Value → Shared → Prop} {Q : Value → Shared → Prop}, Q (.ref (hp.push o1).objs.size) ⟨(hp.push o1).push o2, g, d, tk, os⟩ → wpAny (model prog w) A' (pyIter v2) Q E ⟨hp.push o1, g, d, tk, os⟩ :=
      fun q => B2.iter prog w _ _ ⟨hp.push o1, g, d, tk, os⟩ _ (B2.keeps _ _ c2 fun b o' e => Heap.get?_push_of_some _ e) q
    have k1 : (Str.ofString "strict" != ("strict" : Str)) = false := by decide +kernel
    have k2 : (Str.ofString "strict" == ("strict" : Str)) = true := by decide +kernel
    wp_walk using r1, r2
    exact ⟨_, rfl, hyp⟩

section
variable {prog : Program} {w : World} {A : Around} {E : Value → Shared → Prop} {s : Shared}
/-- zip(u, v, strict=True): its five cells -/
theorem call_zs {v1 v2 : Value} {o1 o2 : Obj} {C1 C2 : Heap → Prop} {Q : Value → Shared → Prop} (B1 : Begins v1 o1 C1) (B2 : Begins v2 o2 C2) (c1 : C1 s.heap) (c2 : C2 s.heap)
    (k : ∀ g, ZsAt g (s.heap.objs.size + 4) (s.heap.objs.size + 2) (s.heap.objs.size + 3) .none → IsTupOf2 g (s.heap.objs.size + 2) (.ref s.heap.objs.size) (.ref (s.heap.objs.size + 1)) → IsTupOf2 g (s.heap.objs.size + 3) .none .none →
      g.get? s.heap.objs.size = some o1 → g.get? (s.heap.objs.size + 1) = some o2 → (∀ c o, s.heap.get? c = some o → g.get? c = some o) → Q (.ref (s.heap.objs.size + 4)) { s with heap := g }) :
    wpAny (model prog w) A (call (.type "zip") [v1, v2] kwS) Q E s := by
  refine callType_newKw F.called_zip (by decide) (tc_zs v1 v2) (nc_zs v1 v2) (fun obj => ai_zs obj v1 v2) F.entry_zip_new (meets_zs B1 B2) ⟨⟨c1, c2⟩, ?_⟩
  have n1 : (s.heap.push o1).objs.size = s.heap.objs.size + 1 := Heap.size_push ..
  have n2 : ((s.heap.push o1).push o2).objs.size = s.heap.objs.size + 2 := by rw [Heap.size_push, n1]
  have n3 : (gzT2 s.heap o1 o2).objs.size = s.heap.objs.size + 3 := by rw [Heap.size_push, n2]
  have n4 : (gzO2 s.heap o1 o2).objs.size = s.heap.objs.size + 4 := by rw [Heap.size_push, n3]
  have up1 : ∀ (h : Heap) (o' : Obj) c o, h.get? c = some o → (h.push o').get? c = some o := fun h o' c o e => Heap.get?_push_of_some _ e
  have a5 : (zsH s.heap o1 o2).get? (gzO2 s.heap o1 o2).objs.size = some { cls := .type "zip", data := .fields #[.none, .bool false, .bool true, .ref ((s.heap.push o1).push o2).objs.size, .ref (gzT2 s.heap o1 o2).objs.size] } := Heap.get?_push_size _ rfl
  have a4 : (zsH s.heap o1 o2).get? (gzT2 s.heap o1 o2).objs.size = some { cls := .type "tuple", data := .seq #[.none, .none] } := up1 _ _ _ _ (Heap.get?_push_size _ rfl)
  have a3 : (zsH s.heap o1 o2).get? ((s.heap.push o1).push o2).objs.size = some { cls := .type "tuple", data := .seq #[.ref s.heap.objs.size, .ref (s.heap.push o1).objs.size] } := up1 _ _ _ _ (up1 _ _ _ _ (Heap.get?_push_size _ rfl))
  have a2 : (zsH s.heap o1 o2).get? (s.heap.push o1).objs.size = some o2 := up1 _ _ _ _ (up1 _ _ _ _ (up1 _ _ _ _ (Heap.get?_push_size _ B2.free)))
  have a1 : (zsH s.heap o1 o2).get? s.heap.objs.size = some o1 := up1 _ _ _ _ (up1 _ _ _ _ (up1 _ _ _ _ (up1 _ _ _ _ (Heap.get?_push_size _ B1.free))))
  rw [n4, n3, n2] at a5
  rw [n3] at a4
  rw [n2, n1] at a3
  rw [n1] at a2
  show _ ∧ _
  rw [n4]
  exact ⟨⟨_, a5, rfl⟩, k _ a5 a3 a4 a1 a2 fun c o e => up1 _ _ _ _ (up1 _ _ _ _ (up1 _ _ _ _ (up1 _ _ _ _ (up1 _ _ _ _ e))))⟩

theorem noe_item {it : Addr} {fp : List Addr} {n i : Nat} {P : Nat → Value → Prop} {St : Nat → Heap → Prop} {Q : Option Value → Shared → Prop} (D : Draws prog w A it fp n P St) (hi : i < n) (st : St i s.heap)
    (q : ∀ x g tk, P i x → St (i + 1) g → Heap.SameBut it s.heap g → Q (some x) { s with heap := g, toks := tk }) : wpAny (model prog w) A (Builtin.SmallTypes.nextOrEnd (.ref it)) Q E s := by
  unfold Builtin.SmallTypes.nextOrEnd
  exact wpAny_bind (wpAny_attempt (D.item i s _ _ hi st fun x g tk a b c => wpAny_pure (q x g tk a b c)))
theorem noe_end {it : Addr} {fp : List Addr} {n : Nat} {P : Nat → Value → Prop} {St : Nat → Heap → Prop} {Q : Option Value → Shared → Prop} (D : Draws prog w A it fp n P St) (st : St n s.heap)
    (q : ∀ g, Heap.ExtBut it s.heap g → Q none { s with heap := g }) : wpAny (model prog w) A (Builtin.SmallTypes.nextOrEnd (.ref it)) Q E s := by
  unfold Builtin.SmallTypes.nextOrEnd
  refine wpAny_bind (wpAny_attempt (D.done s _ _ st fun g e k he => ?_))
  obtain ⟨o, ho, hc⟩ := he
  exact wpAny_bind (wpAny_isInstance (T := "StopIteration") (b := true) ⟨o, ho, hc⟩ isSubtype_stop (wpAny_pure (q g k)))
theorem stop_it {α : Type} {Q : α → Shared → Prop} (hh : A.handled = none) (q : ∀ g e, (∀ c o, s.heap.get? c = some o → g.get? c = some o) → (∃ o, g.get? e = some o ∧ o.cls = .type "StopIteration") → E (.ref e) { s with heap := g }) :
    wpAny (model prog w) A (Builtin.SmallTypes.stopIteration : Sem α) Q E s := by
  unfold Builtin.SmallTypes.stopIteration
  refine wpAny_bind ?_
  unfold newExc
  simp only [newTuple]
  refine wpAny_bind (wpAny_newObj_type ?_ (by size_fits))
  refine wpAny_bind (m := firstArgMember _ _) (wpAny_of_eq (a := Value.none) (by first | rfl | (simp only [firstArgMember]; rfl)) ?_)
  refine wpAny_newObj_type ?_ (by size_fits)
  unfold raiseNew
  refine wpAny_bind (wpAny_handled ?_)
  rw [hh]
  exact wpAny_bind (wpAny_pure (wpAny_throw (q _ _ (fun c o e => Heap.get?_push_of_some _ (Heap.get?_push_of_some _ e)) ⟨_, Heap.get?_push_size _ rfl, rfl⟩)))
variable {z TI TO i1 i2 : Addr} {fp1 fp2 : List Addr} {n1 n2 i : Nat} {P1 P2 : Nat → Value → Prop} {St1 St2 : Nat → Heap → Prop} {a1 a2 : Value}
/-- a turn of it -/
theorem zs_turn {Q : Value → Shared → Prop} (D : ZipSep2 z TI TO i1 i2 fp1 fp2) (L : Draws prog w A i1 fp1 n1 P1 St1) (R : Draws prog w A i2 fp2 n2 P2 St2)
    (az : ZsAt s.heap z TI TO .none) (aI : IsTupOf2 s.heap TI (.ref i1) (.ref i2)) (aO : IsTupOf2 s.heap TO a1 a2) (b1 : St1 i s.heap) (b2 : St2 i s.heap) (l1 : i < n1) (l2 : i < n2)
    (q : ∀ x1 x2 g tk, P1 i x1 → P2 i x2 → ZsAt g z TI TO (rawInt s.heap.objs.size) → IsTupOf2 g TO x1 x2 → St1 (i + 1) g → St2 (i + 1) g → IsTupOf2 g s.heap.objs.size x1 x2 →
      (∀ c o, c ≠ z → c ≠ TO → c ≠ i1 → c ≠ i2 → s.heap.get? c = some o → g.get? c = some o) → Q (.ref s.heap.objs.size) { s with heap := g, toks := tk }) :
    wpAny (model prog w) A (Builtin.«zip.__next__» ⟨[.ref z], []⟩) (fun r s' => ∃ v, r = .done (.ret v) ∧ Q v s') E s := by
  obtain ⟨hp, gs, dr, t0, os⟩ := s
  show wpAny _ _ (field (.ref z) 2 >>= _) _ _ _
  refine wpAny_bind (wpAny_field az rfl (x := .bool true) rfl ?_)
  show wpAny _ _ (field (.ref z) 3 >>= _) _ _ _
  refine wpAny_bind (wpAny_field az rfl (x := .ref TI) rfl (wpAny_bind (wpAny_seqItems aI rfl ?_)))
  show wpAny _ _ (Builtin.SmallTypes.ownedTupleIsFree (.ref z) >>= _) _ _ _
  refine wpAny_bind ?_
  unfold Builtin.SmallTypes.ownedTupleIsFree
  refine wpAny_bind (wpAny_field az rfl (x := .none) rfl (wpAny_pure ?_))
  simp only [if_true]
  refine wpAny_bind (wpAny_rule (wpAny_bind (wpAny_field az rfl (x := .ref TO) rfl (wpAny_bind (wpAny_setField_rec az (by simp) fun m0 Z0 K0 => ?_)))))
  replace Z0 : ZsAt m0 z TI TO .ellipsis := Z0
  replace K0 : Heap.SameBut z hp m0 := K0
  refine wpAny_bind ?_
  simp only [List.zipIdx_cons, List.zipIdx_nil, List.forIn_cons, List.forIn_nil]
  refine wpAny_bind (wpAny_bind (wpAny_onRaise ?_))
  show wpAny _ _ (Builtin.SmallTypes.nextOrEnd (.ref i1)) _ _ ⟨m0, gs, dr, t0, os⟩
  refine noe_item L l1 (L.over b1 K0 D.zf1) fun x1 m1 t1 y1 c1 K1 => ?_
  replace K1 : Heap.SameBut i1 m0 m1 := K1
  have O1 : IsTupOf2 m1 TO a1 a2 := K1.extBut _ _ D.Ti1 (K0.extBut _ _ D.TOz aO)
  refine wpAny_bind (wpAny_seqItems (s := ⟨m1, gs, dr, t1, os⟩) O1 rfl (wpAny_bind (updateSeq_IsTupOf2 (s := ⟨m1, gs, dr, t1, os⟩) O1 fun m2 O2 K2 => ?_)))
  replace O2 : IsTupOf2 m2 TO x1 a2 := O2
  replace K2 : Heap.SameBut TO m1 m2 := K2
  refine wpAny_bind (wpAny_letGo (wpAny_pure (wpAny_bind (wpAny_bind (wpAny_onRaise ?_)))))
  show wpAny _ _ (Builtin.SmallTypes.nextOrEnd (.ref i2)) _ _ ⟨m2, gs, dr, t1, os⟩
  refine noe_item R l2 (R.over (R.over (R.over b2 K0 D.zf2) K1 D.sep1_2) K2 D.Tf2) fun x2 m3 t2 y2 c2 K3 => ?_
  replace K3 : Heap.SameBut i2 m2 m3 := K3
  have O3 : IsTupOf2 m3 TO x1 a2 := K3.extBut _ _ D.Ti2 O2
  refine wpAny_bind (wpAny_seqItems (s := ⟨m3, gs, dr, t2, os⟩) O3 rfl (wpAny_bind (updateSeq_IsTupOf2 (s := ⟨m3, gs, dr, t2, os⟩) O3 fun m4 O4 K4 => ?_)))
  replace O4 : IsTupOf2 m4 TO x1 x2 := O4
  replace K4 : Heap.SameBut TO m3 m4 := K4
  refine wpAny_bind (wpAny_letGo (wpAny_pure (wpAny_pure (wpAny_bind (wpAny_seqItems (s := ⟨m4, gs, dr, t2, os⟩) O4 rfl (wpAny_bind (wpAny_newTuple ?_)))))))
  have size4 : m4.objs.size = hp.objs.size := by rw [K4.1, K3.1, K2.1, K1.1, K0.1]
  have Z4 : ZsAt m4 z TI TO .ellipsis := K4.extBut _ _ D.TOz.symm (K3.extBut _ _ D.zi2 (K2.extBut _ _ D.TOz.symm (K1.extBut _ _ D.zi1 Z0)))
  have stay : ∀ c o, c ≠ z → c ≠ TO → c ≠ i1 → c ≠ i2 → hp.get? c = some o → m4.get? c = some o := fun c o n0 nT m n e => K4.extBut _ _ nT (K3.extBut _ _ n (K2.extBut _ _ nT (K1.extBut _ _ m (K0.extBut _ _ n0 e))))
  have d1 : St1 (i + 1) m4 := L.over (L.over (L.over c1 K2 D.Tf1) K3 D.sep2_1) K4 D.Tf1
  have d2 : St2 (i + 1) m4 := R.over c2 K4 D.Tf2
  have zlt : z < m4.objs.size := Heap.lt_size Z4
  show wpAny _ _ (Builtin.SmallTypes.ownedTupleHandOut (.ref z) (.ref m4.objs.size) >>= _) _ _ ⟨m4.push { cls := .type "tuple", data := .seq #[x1, x2] }, gs, dr, t2, os⟩
  refine wpAny_bind ?_
  unfold Builtin.SmallTypes.ownedTupleHandOut
  have Z5 : ZsAt (m4.push { cls := .type "tuple", data := .seq #[x1, x2] }) z TI TO .ellipsis := Heap.get?_push_of_some _ Z4
  refine wpAny_bind (wpAny_setField_rec Z5 (by simp) fun m6 Z6 K6 => ?_)
  replace Z6 : ZsAt m6 z TI TO (rawInt m4.objs.size) := Z6
  refine wpAny_setField_rec Z6 (by simp) fun m7 Z7 K7 => ?_
  replace Z7 : ZsAt m7 z TI TO (rawInt m4.objs.size) := Z7
  replace K6 : Heap.SameBut z (m4.push { cls := .type "tuple", data := .seq #[x1, x2] }) m6 := K6
  replace K7 : Heap.SameBut z m6 m7 := K7
  have late : ∀ c o, c ≠ z → m4.get? c = some o → m7.get? c = some o := fun c o n e => K7.extBut _ _ n (K6.extBut _ _ n (Heap.get?_push_of_some _ e))
  have T7 : IsTupOf2 m7 m4.objs.size x1 x2 := K7.extBut _ _ (Nat.ne_of_gt zlt) (K6.extBut _ _ (Nat.ne_of_gt zlt) (Heap.get?_push_size _ rfl))
  rw [size4] at Z7 T7
  refine wpAny_pure ⟨_, rfl, ?_⟩
  show Q (.ref m4.objs.size) ⟨m7, gs, dr, t2, os⟩
  rw [size4]
  exact q x1 x2 m7 t2 y1 y2 Z7 (late _ _ D.TOz O4) (L.frame _ _ _ d1 fun b hb o e => late b o (fun r => D.zf1 (r ▸ hb)) e) (R.frame _ _ _ d2 fun b hb o e => late b o (fun r => D.zf2 (r ▸ hb)) e) T7 fun c o n0 nT m n e => late c o n0 (stay c o n0 nT m n e)
/-- its end, both at once -/
theorem zs_end {Q : Fin → Shared → Prop} (hh : A.handled = none) (D : ZipSep2 z TI TO i1 i2 fp1 fp2) (L : Draws prog w A i1 fp1 n1 P1 St1) (R : Draws prog w A i2 fp2 n2 P2 St2)
    (az : ZsAt s.heap z TI TO .none) (aI : IsTupOf2 s.heap TI (.ref i1) (.ref i2)) (aO : IsTupOf2 s.heap TO a1 a2) (b1 : St1 n1 s.heap) (b2 : St2 n2 s.heap)
    (q : ∀ g e, (∀ c o, c ≠ z → c ≠ TO → c ≠ i1 → c ≠ i2 → s.heap.get? c = some o → g.get? c = some o) → (∃ o, g.get? e = some o ∧ o.cls = .type "StopIteration") → E (.ref e) { s with heap := g }) :
    wpAny (model prog w) A (Builtin.«zip.__next__» ⟨[.ref z], []⟩) Q E s := by
  obtain ⟨hp, gs, dr, t0, os⟩ := s
  show wpAny _ _ (field (.ref z) 2 >>= _) _ _ _
  refine wpAny_bind (wpAny_field az rfl (x := .bool true) rfl ?_)
  show wpAny _ _ (field (.ref z) 3 >>= _) _ _ _
  refine wpAny_bind (wpAny_field az rfl (x := .ref TI) rfl (wpAny_bind (wpAny_seqItems aI rfl ?_)))
  show wpAny _ _ (Builtin.SmallTypes.ownedTupleIsFree (.ref z) >>= _) _ _ _
  refine wpAny_bind ?_
  unfold Builtin.SmallTypes.ownedTupleIsFree
  refine wpAny_bind (wpAny_field az rfl (x := .none) rfl (wpAny_pure ?_))
  simp only [if_true]
  refine wpAny_bind (wpAny_rule (wpAny_bind (wpAny_field az rfl (x := .ref TO) rfl (wpAny_bind (wpAny_setField_rec az (by simp) fun m0 Z0 K0 => ?_)))))
  replace Z0 : ZsAt m0 z TI TO .ellipsis := Z0
  replace K0 : Heap.SameBut z hp m0 := K0
  refine wpAny_bind ?_
  simp only [List.zipIdx_cons, List.zipIdx_nil, List.forIn_cons, List.forIn_nil]
  refine wpAny_bind (wpAny_bind (wpAny_onRaise ?_))
  show wpAny _ _ (Builtin.SmallTypes.nextOrEnd (.ref i1)) _ _ ⟨m0, gs, dr, t0, os⟩
  refine noe_end L (L.over b1 K0 D.zf1) fun m1 K1 => ?_
  replace K1 : Heap.ExtBut i1 m0 m1 := K1
  have Z1 : ZsAt m1 z TI TO .ellipsis := K1 _ _ D.zi1 Z0
  refine wpAny_bind (wpAny_setField_rec (s := ⟨m1, gs, dr, t0, os⟩) Z1 (by simp) fun m2 Z2 K2 => ?_)
  replace K2 : Heap.SameBut z m1 m2 := K2
  refine wpAny_bind (wpAny_bind ?_)
  k_delta "zipStrictEnd"
  dsimp only
  simp only [List.drop, List.zipIdx_cons, List.zipIdx_nil, List.forIn_cons, List.forIn_nil]
  have r2 : St2 n2 m2 := R.over (R.frame _ _ _ (R.over b2 K0 D.zf2) fun b hb o e => K1 b o (fun r => D.sep1_2 (r ▸ hb)) e) K2 D.zf2
  refine wpAny_bind (wpAny_bind (noe_end (s := ⟨m2, gs, dr, t0, os⟩) R r2 fun m3 K3 => ?_))
  replace K3 : Heap.ExtBut i2 m2 m3 := K3
  simp only [Option.isSome_none, Bool.false_eq_true, if_false]
  refine wpAny_pure (wpAny_pure (wpAny_bind (wpAny_rule (stop_it (s := ⟨m3, gs, dr, t0, os⟩) hh fun m4 e K4 he => ?_))))
  exact q m4 e (fun c o n0 nT m n x => K4 c o (K3 c o n (K2.extBut _ _ n0 (K1 c o m (K0.extBut _ _ n0 x))))) he
end
end Pd

/-! Pd: zip(a, b, strict=True) as what is walked. -/
namespace Pd
open PySem PySem.Spec L2

section
variable {prog : Program} {w : World} {A : Around} {E : Value → Shared → Prop} {s : Shared} {z TI TO i1 i2 : Addr} {fp1 fp2 : List Addr} {n1 n2 i : Nat} {P1 P2 : Nat → Value → Prop} {St1 St2 : Nat → Heap → Prop} {a1 a2 : Value}
theorem nx_zs {Q : Option Value → Shared → Prop} (D : ZipSep2 z TI TO i1 i2 fp1 fp2) (L : Draws prog w A.in1 i1 fp1 n1 P1 St1) (R : Draws prog w A.in1 i2 fp2 n2 P2 St2)
    (az : ZsAt s.heap z TI TO .none) (aI : IsTupOf2 s.heap TI (.ref i1) (.ref i2)) (aO : IsTupOf2 s.heap TO a1 a2) (b1 : St1 i s.heap) (b2 : St2 i s.heap) (l1 : i < n1) (l2 : i < n2)
    (q : ∀ x1 x2 g tk, P1 i x1 → P2 i x2 → ZsAt g z TI TO (rawInt s.heap.objs.size) → IsTupOf2 g TO x1 x2 → St1 (i + 1) g → St2 (i + 1) g → IsTupOf2 g s.heap.objs.size x1 x2 →
      (∀ c o, c ≠ z → c ≠ TO → c ≠ i1 → c ≠ i2 → s.heap.get? c = some o → g.get? c = some o) → Q (some (.ref s.heap.objs.size)) { s with heap := g, toks := tk }) :
    wpAny (model prog w) A (pyNext (.ref z)) Q E s := by
  have ty : s.TypeIs (.ref z) "zip" := ⟨_, az, rfl⟩
  unfold pyNext
  exact wpAny_bind (wpAny_attempt (wpAny_callSpecial?_slot (name := Str.ofString "__next__") ty F.slot_zip_next (wpAny_call_entry F.slot_zip_next ty F.entry_zip_next
    (zs_turn D L R az aI aO b1 b2 l1 l2 fun x1 x2 g tk y1 y2 u1 u2 u3 u4 u5 u6 => wpAny_pure (q x1 x2 g tk y1 y2 u1 u2 u3 u4 u5 u6)) (F.args_zip_next_1 _))))
theorem nx_zsE {Q : Option Value → Shared → Prop} (hh : A.handled = none) (D : ZipSep2 z TI TO i1 i2 fp1 fp2) (L : Draws prog w A.in1 i1 fp1 n1 P1 St1) (R : Draws prog w A.in1 i2 fp2 n2 P2 St2)
    (az : ZsAt s.heap z TI TO .none) (aI : IsTupOf2 s.heap TI (.ref i1) (.ref i2)) (aO : IsTupOf2 s.heap TO a1 a2) (b1 : St1 n1 s.heap) (b2 : St2 n2 s.heap)
    (q : ∀ g, (∀ c o, c ≠ z → c ≠ TO → c ≠ i1 → c ≠ i2 → s.heap.get? c = some o → g.get? c = some o) → Q none { s with heap := g }) :
    wpAny (model prog w) A (pyNext (.ref z)) Q E s := by
  have ty : s.TypeIs (.ref z) "zip" := ⟨_, az, rfl⟩
  unfold pyNext
  refine wpAny_bind (wpAny_attempt (wpAny_callSpecial?_slot (name := Str.ofString "__next__") ty F.slot_zip_next (wpAny_call_entry F.slot_zip_next ty F.entry_zip_next
    (zs_end (A := A.in1) hh D L R az aI aO b1 b2 fun g e k he => ?_) (F.args_zip_next_1 _))))
  obtain ⟨o, ho, hc⟩ := he
  exact wpAny_bind (wpAny_isInstance (T := "StopIteration") (b := true) ⟨o, ho, hc⟩ isSubtype_stop (wpAny_pure (q g k)))
theorem go_zs {elts : List Expr} {k : Nat} {pos : Pos} {T : Addr} {Q : Unit → Shared → Prop} (az : ZsAt s.heap z TI TO (rawInt T)) (q : ∀ g, ZsAt g z TI TO .none → Heap.SameBut z s.heap g → Q () { s with heap := g }) :
    wpAny (model prog w) A (letOwnedTupleGo (.Tuple elts k pos) (.ref z) (.ref T)) Q E s := by
  unfold letOwnedTupleGo
  refine wpAny_bind (wpAny_load az ?_)
  show wpAny _ _ (if (["enumerate", "zip", "dict_itemiterator", "dict_reverseitemiterator", "odict_iterator", "itertools.zip_longest", "itertools.pairwise"].contains "zip" && (#[rawInt T, .bool false, .bool true, .ref TI, .ref TO] : Array Value)[0]? == some (rawInt T)) = true then _ else _) Q E s
  rw [if_pos (by simp)]
  refine wpAny_bind (wpAny_rule ?_)
  show wpAny _ _ (setField (.ref z) 0 .none) Q E s
  exact wpAny_setField_rec az (by simp) fun g a b => q g a b
theorem it_zs {f0 : Value} {Q : Value → Shared → Prop} (az : ZsAt s.heap z TI TO f0) (q : Q (.ref z) s) : wpAny (model prog w) A (pyIter (.ref z)) Q E s := by
  have ty : s.TypeIs (.ref z) "zip" := ⟨_, az, rfl⟩
  refine wpAny_pyIter_slot ty F.slot_zip_iter (wpAny_call_entry F.slot_zip_iter ty F.entry_zip_iter ?_ (F.args_zip_iter_1 _))
  show wpAny _ _ (ret (.ref z)) _ _ s
  exact wpAny_pure ⟨_, rfl, "zip", _, ty, F.slot_zip_next.lookup, q⟩
end

/-! ### rows: lists, tuples, texts (these at no place of their own) -/
def sgs (y : Str) : List V := y.cps.toList.map fun c => V.str ⟨#[c]⟩
def SqB (K : PySem.W.Frag) (t : Rk) (H : Hp) (a : Addr) (xs : List V) : Prop := match t with
  | .t => SqT K H a xs
  | .l => SqL K H a xs
  | .s y => xs = sgs y
def ItB (t : Rk) (h : Heap) (it a : Addr) (i : Nat) : Prop := match t with
  | .t => h.IsTupleIter it a i
  | .l => h.IsListIter it a i
  | .s y => ∃ u, h.IsStrIter it (strIterType y) y u i
/-- the row as a value -/
def valB (t : Rk) (a : Addr) : V := match t with
  | .s y => .str y
  | _ => .ref a
theorem ItB.at {t : Rk} {h h' : Heap} {it a : Addr} {i : Nat} (x : ItB t h it a i) (k : ∀ o, h.get? it = some o → h'.get? it = some o) : ItB t h' it a i := by
  cases t
  · exact Heap.IsTupleIter.at x k
  · exact Heap.IsListIter.at x k
  · obtain ⟨u, o, ho, r⟩ := x
    exact ⟨u, o, k o ho, r⟩
theorem ItB.obj {t : Rk} {h : Heap} {it a : Addr} {i : Nat} (x : ItB t h it a i) : ∃ o, h.get? it = some o ∧ ∀ v, o.data ≠ .cell v := by
  cases t
  · obtain ⟨o, e, _, d⟩ := x; exact ⟨o, e, fun v q => by rw [d] at q; cases q⟩
  · obtain ⟨o, e, _, d⟩ := x; exact ⟨o, e, fun v q => by rw [d] at q; cases q⟩
  · obtain ⟨u, o, e, _, d⟩ := x; exact ⟨o, e, fun v q => by rw [d] at q; cases q⟩
theorem sep_of {z TI TO i1 i2 a b : Addr} (D : ZipApart z TI TO i1 i2 a b) : ZipSep2 z TI TO i1 i2 [i1, a] [i2, b] :=
  ⟨D.TIz, D.TOz, D.TITO, D.TIi1, by simp, by simp [D.i1z.symm, D.l1z.symm], by simp [D.TOi1, D.l1TO.symm], D.TIi2, by simp, by simp [D.i2z.symm, D.l2z.symm], by simp [D.TOi2, D.l2TO.symm], by simp [D.i12, D.l2i1.symm], by simp [D.i12.symm, D.l1i2.symm]⟩
theorem Draws.wide {prog : Program} {w : World} {A : Around} {it : Addr} {fp fp' : List Addr} {n : Nat} {P P' : Nat → Value → Prop} {St : Nat → Heap → Prop} (D : Draws prog w A it fp n P St) (hf : ∀ b ∈ fp, b ∈ fp') (hP : ∀ i x, P i x → P' i x) : Draws prog w A it fp' n P' St where
  live := D.live
  frame := fun i h h' st k => D.frame i h h' st fun b hb => k b (hf b hb)
  item := fun i s Q E hi st q => D.item i s Q E hi st fun x h' tk p => q x h' tk (hP i x p)
  done := D.done
theorem sgs_at {y : Str} {j : Nat} : (sgs y)[j]? = (y.cps[j]?).map fun c => V.str ⟨#[c]⟩ := by
  unfold sgs
  rw [List.getElem?_map, Array.getElem?_toList]
theorem sgs_len {y : Str} : (sgs y).length = y.cps.size := by unfold sgs; simp
section
variable {X : Cx} {pins : List (Addr × Obj)} {σ : L2.St} {H : Hp} {s : Shared} {t : Rk} {it a : Addr} {i : Nat} {xs : List V}
/-- its turns -/
theorem drw (I : Inv X pins σ H s) (hc : X.calm = true) (hne : a ≠ it) (hq : SqB X.K t H a xs) (hi : ItB t s.heap it a i) :
    ∃ (St : Nat → Heap → Prop), Draws X.prog X.w X.A.in1 it [it, a] xs.length (fun j x => ∃ y, xs[j]? = some y ∧ RelV y x) St ∧ St i s.heap ∧ ∀ j h, St j h → ItB t h it a j := by
  have rel : ∀ {its : List Value}, Vals xs its → ∀ (j : Nat) (x : Value), its.toArray[j]? = some x → ∃ y, xs[j]? = some y ∧ RelV y x := fun {its} rv j x e => by
    have e : its[j]? = some x := by simpa using e
    have hj := (List.getElem?_eq_some_iff.mp e).1
    rw [← rv.length] at hj
    obtain ⟨u, h1, h2⟩ := rv.get (List.getElem?_eq_getElem hj)
    rw [e] at h1
    cases h1
    exact ⟨_, List.getElem?_eq_getElem hj, h2⟩
  cases t
  · obtain ⟨its, rv, p, _⟩ := I.tuple hq
    have hl : its.toArray.size = xs.length := by rw [List.size_toArray, rv.length]
    refine ⟨fun j h => h.IsTupleIter it a j ∧ h.IsTuple a its.toArray, ?_, ⟨hi, p⟩, fun j h st => st.1⟩
    rw [← hl]
    exact Draws.wide (Draws.tuple (prog := X.prog) (w := X.w) (A := X.A.in1) (I.ok.hd hc) it a hne its.toArray) (fun b hb => hb) (rel rv)
  · obtain ⟨its, rv, p, _⟩ := I.list hq
    have hl : its.toArray.size = xs.length := by rw [List.size_toArray, rv.length]
    refine ⟨fun j h => h.IsListIter it a j ∧ h.IsList a its.toArray, ?_, ⟨hi, p.isList⟩, fun j h st => st.1⟩
    rw [← hl]
    exact Draws.wide (Draws.list (prog := X.prog) (w := X.w) (A := X.A.in1) (I.ok.hd hc) it a hne its.toArray) (fun b hb => hb) (rel rv)
  · rename_i y
    obtain ⟨u, hi⟩ := hi
    have hq : xs = sgs y := hq
    subst hq
    refine ⟨fun j h => h.IsStrIter it (strIterType y) y u j, ?_, hi, fun j h st => ⟨u, st⟩⟩
    rw [sgs_len]
    refine Draws.wide (Draws.text (prog := X.prog) (w := X.w) (A := X.A.in1) (I.ok.hd hc) it y u) (fun b hb => by simp at hb; simp [hb]) fun j x hx => ?_
    obtain ⟨c, v, h1, rfl⟩ := hx
    exact ⟨.str ⟨#[c]⟩, by rw [sgs_at, h1]; rfl, ⟨v, rfl⟩⟩
theorem spentL {prog : Program} {w : World} {A : Around} (hh : A.handled = none) (it a : Addr) (items : Array Value) (i : Nat) (hi : items.size ≤ i) :
    Draws prog w A it [it, a] i (fun _ _ => False) (fun j h => h.IsListIter it a j ∧ h.IsList a items ∧ j = i) where
  live := fun j h st => let ⟨o, ho, _⟩ := st.1; ⟨o, ho⟩
  frame := fun j h h' st hk => ⟨st.1.at fun o e => hk it (by simp) o e, st.2.1.at fun o e => hk a (by simp) o e, st.2.2⟩
  item := fun j s Q E hj st hQ => absurd st.2.2 (Nat.ne_of_lt hj)
  done := fun s Q E st hE => wpAny_nextOf_list_end hh st.1 st.2.1 (Array.getElem?_eq_none hi) hE
theorem spentS {prog : Program} {w : World} {A : Around} (hh : A.handled = none) (it a : Addr) (y : Str) (u : Tok) (i : Nat) (hi : y.cps.size ≤ i) :
    Draws prog w A it [it, a] i (fun _ _ => False) (fun j h => h.IsStrIter it (strIterType y) y u j ∧ j = i) where
  live := fun j h st => let ⟨o, ho, _⟩ := st.1; ⟨o, ho⟩
  frame := fun j h h' st hk => ⟨let ⟨o, ho, r⟩ := st.1; ⟨o, hk it (by simp) o ho, r⟩, st.2⟩
  item := fun j s Q E hj st hQ => absurd st.2 (Nat.ne_of_lt hj)
  done := fun s Q E st hE => by
    have st := st.1
    have hx : y.cps[i]? = none := Array.getElem?_eq_none hi
    cases ha : y.cps.all (· < 128)
    · simp only [strIterType, ha, Bool.false_eq_true, if_false] at st
      exact wpAny_nextOf_wide_end hh st hx hE
    · simp only [strIterType, ha, if_true] at st
      exact wpAny_nextOf_ascii_end hh st hx hE
/-- its end -/
theorem drwE (I : Inv X pins σ H s) (hc : X.calm = true) (hne : a ≠ it) (hq : SqB X.K t H a xs) (hi : ItB t s.heap it a i) (hl : xs.length ≤ i) :
    ∃ (St : Nat → Heap → Prop), Draws X.prog X.w X.A.in1 it [it, a] i (fun _ _ => False) St ∧ St i s.heap := by
  cases t
  · obtain ⟨its, rv, p, _⟩ := I.tuple hq
    have := rv.length
    exact ⟨fun j h => h.IsTupleIter it a j ∧ h.IsTuple a its.toArray ∧ j = i, spent (prog := X.prog) (w := X.w) (A := X.A.in1) (I.ok.hd hc) it a hne its.toArray i (by simp; omega), hi, p, rfl⟩
  · obtain ⟨its, rv, p, _⟩ := I.list hq
    have := rv.length
    exact ⟨fun j h => h.IsListIter it a j ∧ h.IsList a its.toArray ∧ j = i, spentL (prog := X.prog) (w := X.w) (A := X.A.in1) (I.ok.hd hc) it a its.toArray i (by simp; omega), hi, p.isList, rfl⟩
  · rename_i y
    obtain ⟨u, hi⟩ := hi
    have hq : xs = sgs y := hq
    subst hq
    rw [sgs_len] at hl
    exact ⟨_, spentS (prog := X.prog) (w := X.w) (A := X.A.in1) (I.ok.hd hc) it a y u i hl, hi, rfl⟩
theorem SqB.inj {ys : List V} (I : Inv X pins σ H s) (h1 : SqB X.K t H a xs) (h2 : SqB X.K t H a ys) : xs = ys := by
  cases t
  · exact I.tuple_inj h1 h2
  · exact I.list_inj h1 h2
  · exact Eq.trans (show xs = _ from h1) (show ys = _ from h2).symm
theorem SqB.lt (I : Inv X pins σ H s) (h : SqB X.K t H a xs) (hs : t.isS = false) : a < s.heap.objs.size := by
  cases t
  · obtain ⟨its, rv, p, _⟩ := I.tuple h
    obtain ⟨o, ho, _⟩ := p
    exact Heap.lt_size ho
  · obtain ⟨its, rv, p, _⟩ := I.list h
    exact p.lt
  · cases hs
theorem SqB.begins {u : Value} (I : Inv X pins σ H s) (h : SqB X.K t H a xs) (r : RelV (valB t a) u) : ∃ (o : Obj) (C : Heap → Prop), Begins u o C ∧ C s.heap ∧ ∀ (h : Heap) (it : Addr), h.get? it = some o → ItB t h it a 0 := by
  cases t
  · cases (show u = Value.ref a from r)
    obtain ⟨its, rv, p, _⟩ := I.tuple h
    exact ⟨_, _, begins_tuple a its.toArray, p, fun h it e => ⟨_, e, rfl, rfl⟩⟩
  · cases (show u = Value.ref a from r)
    obtain ⟨its, rv, p, _⟩ := I.list h
    exact ⟨_, _, begins_list a its.toArray, p.isList, fun h it e => ⟨_, e, rfl, rfl⟩⟩
  · rename_i y
    obtain ⟨k, rfl⟩ := (show ∃ k, u = Value.str y k from r)
    exact ⟨_, _, begins_text y k, trivial, fun h it e => ⟨k, _, e, rfl, rfl⟩⟩
end
/-- the rows at a and b, the items in new pairs, as many of both -/
def ItS (K : PySem.W.Frag) (ta tb : Rk) (a b : Addr) : It :=
  ⟨fun i H => ∃ (xs ys : List V) (x y : V), SqB K ta H a xs ∧ SqB K tb H b ys ∧ xs[i]? = some x ∧ ys[i]? = some y,
    fun i H v H' => ∃ T x y, v = .ref T ∧ H T = none ∧ H' = upd H T (.tup [x, y]) ∧ (∀ xs, SqB K ta H a xs → xs[i]? = some x) ∧ ∀ ys, SqB K tb H b ys → ys[i]? = some y,
    fun i H => ∃ xs ys : List V, SqB K ta H a xs ∧ SqB K tb H b ys ∧ xs.length ≤ i ∧ ys.length ≤ i⟩
theorem turn_zs {P : Program} {w : World} {K : PySem.W.Frag} {elts : List Expr} {kk : Nat} {tpos : Pos} {ta tb : Rk} {a b z TI TO i1 i2 : Addr} (D : ZipApart z TI TO i1 i2 a b) :
    Turn P w K (.Tuple elts kk tpos) (ItS K ta tb a b) [z, TI, TO, i1, i2] z (fun i h => ZsAt h z TI TO .none ∧ IsTupOf2 h TI (.ref i1) (.ref i2) ∧ (∃ x y, IsTupOf2 h TO x y) ∧ ItB ta h i1 a i ∧ ItB tb h i2 b i) where
  mem := List.mem_cons_self
  obj := fun i h st c hc => by
    obtain ⟨az, aI, ⟨x, y, aO⟩, j1, j2⟩ := st
    simp only [List.mem_cons, List.not_mem_nil, or_false] at hc
    rcases hc with rfl | rfl | rfl | rfl | rfl
    · exact ⟨_, az, fun v q => nomatch q⟩
    · exact ⟨_, aI, fun v q => nomatch q⟩
    · exact ⟨_, aO, fun v q => nomatch q⟩
    · exact j1.obj
    · exact j2.obj
  keep := fun i h h' st k => by
    obtain ⟨az, aI, ⟨x, y, aO⟩, j1, j2⟩ := st
    exact ⟨k z (by simp) _ az, k TI (by simp) _ aI, ⟨x, y, k TO (by simp) _ aO⟩, j1.at fun o => k i1 (by simp) o, j2.at fun o => k i2 (by simp) o⟩
  item := by
    intro X eP ew eK hc i pins s σ H E I hf st hg
    subst eP ew eK
    obtain ⟨az, aI, ⟨x0, y0, aO⟩, j1, j2⟩ := st
    obtain ⟨xs, ys, x, y, sx, sy, hx, hy⟩ := hg
    obtain ⟨S1, D1, s1, k1⟩ := drw I hc D.l1i1 sx j1
    obtain ⟨S2, D2, s2, k2⟩ := drw I hc D.l2i2 sy j2
    have zlt : z < s.heap.objs.size := Heap.lt_size az
    have m1 : i < xs.length := (List.getElem?_eq_some_iff.mp hx).1
    have m2 : i < ys.length := (List.getElem?_eq_some_iff.mp hy).1
    refine nx_zs (sep_of D) D1 D2 az aI aO s1 s2 m1 m2 fun x1 x2 g tk y1 y2 z1 o1 t1 t2 T1 kk1 => ?_
    obtain ⟨x', e1, ru⟩ := y1
    obtain ⟨y', e2, rv⟩ := y2
    rw [hx] at e1
    cases e1
    rw [hy] at e2
    cases e2
    refine ⟨_, rfl, go_zs (s := { s with heap := g, toks := tk }) z1 fun g2 z2 sb => ?_⟩
    have T2 : g2.get? s.heap.objs.size = some { cls := .type "tuple", data := .seq #[x1, x2] } := (sb.2 _ (Nat.ne_of_gt zlt)).trans T1
    have new : ObjOk X.prog X.w (upd H s.heap.objs.size (.tup [x, y])) g2 s.heap.objs.size (.tup [x, y]) :=
      ⟨by show 2 ≤ sizeLine; decide, [x1, x2], .cons ru (.cons rv .nil), ⟨_, T2, rfl, _, rfl⟩⟩
    have I1 : Inv X pins σ (upd H s.heap.objs.size (.tup [x, y])) { s with heap := g2, toks := tk } :=
      I.turnedNew (ch := [z, TI, TO, i1, i2]) (fun c o hb q => (sb.2 c (fun r => hb (by simp [r]))).trans (kk1 c o (fun r => hb (by simp [r])) (fun r => hb (by simp [r])) (fun r => hb (by simp [r])) (fun r => hb (by simp [r])) q)) hf (Nat.le_refl _) new
    refine ⟨.ref s.heap.objs.size, _, I1, rfl, ⟨_, x, y, rfl, I.hok.fresh (Nat.le_refl _), rfl, fun l hl => by rw [SqB.inj I hl sx]; exact hx, fun l hl => by rw [SqB.inj I hl sy]; exact hy⟩, ⟨z2, (sb.2 _ D.TIz).trans (kk1 _ _ D.TIz D.TITO D.TIi1 D.TIi2 aI), ⟨x1, x2, (sb.2 _ D.TOz).trans o1⟩, (k1 _ _ t1).at fun o q => (sb.2 _ D.i1z).trans q, (k2 _ _ t2).at fun o q => (sb.2 _ D.i2z).trans q⟩, fun c hcm => ?_⟩
    have clt : c < s.heap.objs.size := by
      simp only [List.mem_cons, List.not_mem_nil, or_false] at hcm
      rcases hcm with rfl | rfl | rfl | rfl | rfl
      · exact zlt
      · exact Heap.lt_size aI
      · exact Heap.lt_size aO
      · obtain ⟨_, e, _⟩ := j1.obj; exact Heap.lt_size e
      · obtain ⟨_, e, _⟩ := j2.obj; exact Heap.lt_size e
    rw [upd_ne (Nat.ne_of_lt clt)]
    exact (hf c hcm).1
  done := by
    intro X eP ew eK hc i pins s σ H E I hf st hg
    subst eP ew eK
    obtain ⟨az, aI, ⟨x0, y0, aO⟩, j1, j2⟩ := st
    obtain ⟨xs, ys, sx, sy, lx, ly⟩ := hg
    obtain ⟨S1, D1, s1⟩ := drwE I hc D.l1i1 sx j1 lx
    obtain ⟨S2, D2, s2⟩ := drwE I hc D.l2i2 sy j2 ly
    exact nx_zsE (I.ok.hd hc) (sep_of D) D1 D2 az aI aO s1 s2 fun g k => ⟨rfl, I.turnedL (t' := s.toks) (ch := [z, TI, TO, i1, i2]) (fun c o hb q =>
      k c o (fun r => hb (by simp [r])) (fun r => hb (by simp [r])) (fun r => hb (by simp [r])) (fun r => hb (by simp [r])) q) hf⟩
  self := fun A i s Q E st h => it_zs st.1 h

def iZipS (K : PySem.W.Frag) (ta : TA) : TI := fun σ H R => ta σ H fun vs H1 => ∃ t u a b xs ys, vs = [valB t a, .ref b] ∧ (t.isS = true → a = b) ∧ u.isS = false ∧ SqB K t H1 a xs ∧ SqB K u H1 b ys ∧ R (ItS K t u a b) H1
theorem keep_ty {M : Model} (T : String) (h : Heap) (_ : True) : ∃ k, (k = Keeper.frame ∨ k = Keeper.machine ∨ k = Keeper.boundFrame) ∧ PySem.W.Looks M h (keeperOf (.type T)) k := by
  refine ⟨.machine, .inr (.inl rfl), ?_⟩
  exact PySem.W.Looks.of_pure rfl
theorem pi_zs {X : Cx} {e e2 : Expr} {ta : TA} {p pos tpos kp cp : Pos} {ck : Nat} {elts : List Expr} {kk : Nat} (hg : Gl X "zip") (hm : X.mg "zip" = none) (ha : PA X [e, e2] ta)
    (hs : starEach [e, e2] X.env = (false, eval e X.env) :: starEach [e2] X.env := by rfl) (hpl : ((backTo pos (starEach [e, e2] X.env)).any (·.1) || (backToKw pos (keywordEach [⟨some "strict", .Constant (.bool true) ck cp, kp⟩] X.env)).any (·.1.isNone)) = false := by rfl) :
    PI X (.Tuple elts kk tpos) (.Call (.Name "zip" p) [e, e2] [⟨some "strict", .Constant (.bool true) ck cp, kp⟩] pos) (iZipS X.K ta) := by
  refine ⟨fun pins s σ H R I h => ?_⟩
  refine wpAny_Call_Name_kw (ld_blt I hg hm PyProof.Rows.boot_zip ?_)
  refine PySem.W.callWith_of (P := fun _ => True) hpl (keep_ty "zip") (PyProof.Rows.evalArgs_kw2 rfl (thn (ha.run pos pins s σ H _ I h) fun us s1 ⟨vs, H1, I1, r1, q1⟩ => ?_) hs)
  have kw : PK X [⟨some "strict", .Constant (.bool true) ck cp, kp⟩] _ := pk_cons pe_bl pk_nil
  refine thn (kw.run pos pins s1 σ H1 (fun zs H2 => zs = [.bl true] ∧ H2 = H1) I1 ⟨rfl, rfl⟩) fun ks s2 ⟨zs, H2, I2, r2, q2, q3⟩ => ⟨trivial, ?_⟩
  subst q2 q3
  obtain ⟨t, u, a, b, xs, ys, ex, hab, hub, sx, sy, q1⟩ := q1
  subst ex
  cases r2 with
  | cons e2 r2 =>
    cases r2
    cases e2
    cases r1 with
    | cons r rr =>
      cases rr with
      | cons r' rr =>
        cases rr
        have vb : valB u b = .ref b := by
          cases u
          · rfl
          · rfl
          · cases hub
        rw [← vb] at r'
        obtain ⟨o1, C1, B1, c1, w1⟩ := SqB.begins I2 sx r
        obtain ⟨o2, C2, B2, c2, w2⟩ := SqB.begins I2 sy r'
        have lb := SqB.lt I2 sy hub
        have la : a < s2.heap.objs.size := by
          cases ht : t.isS with
          | true => rw [hab ht]; exact lb
          | false => exact SqB.lt I2 sx ht
        refine call_zs B1 B2 c1 c2 fun g az aI aO g1 g2 k => it_zs az ?_
        have I3 : Inv X pins σ H2 { s2 with heap := g } := I2.kept (t' := s2.toks) k
        refine ⟨s2.heap.objs.size + 4, [s2.heap.objs.size + 4, s2.heap.objs.size + 2, s2.heap.objs.size + 3, s2.heap.objs.size, s2.heap.objs.size + 1], _, _, H2, rfl, I3, turn_zs (PySem.W.ktu_apart s2.heap.objs.size a b la lb), ⟨az, aI, ⟨_, _, aO⟩, w1 _ _ g1, w2 _ _ g2⟩, fun c hcm => ?_, q1⟩
        have hle : s2.heap.objs.size ≤ c := by
          simp only [List.mem_cons, List.not_mem_nil, or_false] at hcm
          rcases hcm with rfl | rfl | rfl | rfl | rfl
          · exact Nat.le_add_right _ _
          · exact Nat.le_add_right _ _
          · exact Nat.le_add_right _ _
          · exact Nat.le_refl _
          · exact Nat.le_add_right _ _
        exact I2.fpOk hle (I2.hok.fresh hle)
end Pd

/-! Pd: zip(a, b) of rows of any kind, as far as the shorter goes. -/
namespace Pd
open PySem PySem.Spec PyProof.Rows L2
section
variable {prog : Program} {w : World} {A : Around} {E : Value → Shared → Prop} {s : Shared} {z TI TO i1 i2 : Addr} {fp1 fp2 : List Addr} {n1 n2 i : Nat} {P1 P2 : Nat → Value → Prop} {St1 St2 : Nat → Heap → Prop} {a1 a2 : Value}
theorem nx_zn {Q : Option Value → Shared → Prop} (D : ZipSep2 z TI TO i1 i2 fp1 fp2) (L : Draws prog w A.in1 i1 fp1 n1 P1 St1) (R : Draws prog w A.in1 i2 fp2 n2 P2 St2)
    (az : IsZip s.heap z TI TO .none) (aI : IsTupOf2 s.heap TI (.ref i1) (.ref i2)) (aO : IsTupOf2 s.heap TO a1 a2) (b1 : St1 i s.heap) (b2 : St2 i s.heap) (l1 : i < n1) (l2 : i < n2)
    (q : ∀ x1 x2 g tk, P1 i x1 → P2 i x2 → IsZip g z TI TO (rawInt s.heap.objs.size) → IsTupOf2 g TO x1 x2 → St1 (i + 1) g → St2 (i + 1) g → IsTupOf2 g s.heap.objs.size x1 x2 →
      (∀ c o, c ≠ z → c ≠ TO → c ≠ i1 → c ≠ i2 → s.heap.get? c = some o → g.get? c = some o) → Q (some (.ref s.heap.objs.size)) { s with heap := g, toks := tk }) :
    wpAny (model prog w) A (pyNext (.ref z)) Q E s := by
  have ty : s.TypeIs (.ref z) "zip" := ⟨_, az, rfl⟩
  unfold pyNext
  exact wpAny_bind (wpAny_attempt (wpAny_callSpecial?_slot (name := Str.ofString "__next__") ty F.slot_zip_next (wpAny_call_entry F.slot_zip_next ty F.entry_zip_next
    (zipD2_next_item D L R az aI aO b1 b2 l1 l2 fun x1 x2 g tk y1 y2 u1 u2 u3 u4 u5 _ u6 => wpAny_pure (q x1 x2 g tk y1 y2 u1 u2 u3 u4 u5 u6)) (F.args_zip_next_1 _))))
theorem nx_znE {Q : Option Value → Shared → Prop} (D : ZipSep2 z TI TO i1 i2 fp1 fp2) (L : Draws prog w A.in1 i1 fp1 n1 P1 St1) (R : Draws prog w A.in1 i2 fp2 n2 P2 St2)
    (az : IsZip s.heap z TI TO .none) (aI : IsTupOf2 s.heap TI (.ref i1) (.ref i2)) (aO : IsTupOf2 s.heap TO a1 a2) (b1 : St1 i s.heap) (b2 : St2 i s.heap) (l1 : i ≤ n1) (l2 : i ≤ n2) (e : i = n1 ∨ i = n2)
    (q : ∀ g tk, (∀ c o, c ≠ z → c ≠ TO → c ≠ i1 → c ≠ i2 → s.heap.get? c = some o → g.get? c = some o) → Q none { s with heap := g, toks := tk }) :
    wpAny (model prog w) A (pyNext (.ref z)) Q E s := by
  have ty : s.TypeIs (.ref z) "zip" := ⟨_, az, rfl⟩
  unfold pyNext
  refine wpAny_bind (wpAny_attempt (wpAny_callSpecial?_slot (name := Str.ofString "__next__") ty F.slot_zip_next (wpAny_call_entry F.slot_zip_next ty F.entry_zip_next
    (zipD2_next_end (A := A.in1) D L R az aI aO b1 b2 l1 l2 e fun g tk x k he => ?_) (F.args_zip_next_1 _))))
  obtain ⟨o, ho, hc⟩ := he
  exact wpAny_bind (wpAny_isInstance (T := "StopIteration") (b := true) ⟨o, ho, hc⟩ isSubtype_stop (wpAny_pure (q g tk k)))
end
/-- the rows at a and b, the items in new pairs, as far as both go -/
def ItN (K : PySem.W.Frag) (ta tb : Rk) (a b : Addr) : It :=
  ⟨(ItS K ta tb a b).go, (ItS K ta tb a b).yld, fun i H => ∃ xs ys : List V, SqB K ta H a xs ∧ SqB K tb H b ys ∧ (xs.length ≤ i ∨ ys.length ≤ i)⟩
theorem turn_zn {P : Program} {w : World} {K : PySem.W.Frag} {elts : List Expr} {kk : Nat} {tpos : Pos} {ta tb : Rk} {a b z TI TO i1 i2 : Addr} (D : ZipApart z TI TO i1 i2 a b) :
    Turn P w K (.Tuple elts kk tpos) (ItN K ta tb a b) [z, TI, TO, i1, i2] z (fun i h => IsZip h z TI TO .none ∧ IsTupOf2 h TI (.ref i1) (.ref i2) ∧ (∃ x y, IsTupOf2 h TO x y) ∧ ItB ta h i1 a i ∧ ItB tb h i2 b i) where
  mem := List.mem_cons_self
  obj := fun i h st c hc => by
    obtain ⟨az, aI, ⟨x, y, aO⟩, j1, j2⟩ := st
    simp only [List.mem_cons, List.not_mem_nil, or_false] at hc
    rcases hc with rfl | rfl | rfl | rfl | rfl
    · exact ⟨_, az, fun v q => nomatch q⟩
    · exact ⟨_, aI, fun v q => nomatch q⟩
    · exact ⟨_, aO, fun v q => nomatch q⟩
    · exact j1.obj
    · exact j2.obj
  keep := fun i h h' st k => by
    obtain ⟨az, aI, ⟨x, y, aO⟩, j1, j2⟩ := st
    exact ⟨k z (by simp) _ az, k TI (by simp) _ aI, ⟨x, y, k TO (by simp) _ aO⟩, j1.at fun o => k i1 (by simp) o, j2.at fun o => k i2 (by simp) o⟩
  item := by
    intro X eP ew eK hc i pins s σ H E I hf st hg
    subst eP ew eK
    obtain ⟨az, aI, ⟨x0, y0, aO⟩, j1, j2⟩ := st
    obtain ⟨xs, ys, x, y, sx, sy, hx, hy⟩ := hg
    obtain ⟨S1, D1, s1, k1⟩ := drw I hc D.l1i1 sx j1
    obtain ⟨S2, D2, s2, k2⟩ := drw I hc D.l2i2 sy j2
    have zlt : z < s.heap.objs.size := Heap.lt_size az
    refine nx_zn (sep_of D) D1 D2 az aI aO s1 s2 (List.getElem?_eq_some_iff.mp hx).1 (List.getElem?_eq_some_iff.mp hy).1 fun x1 x2 g tk y1 y2 z1 o1 t1 t2 T1 kk1 => ?_
    obtain ⟨x', e1, ru⟩ := y1
    obtain ⟨y', e2, rv⟩ := y2
    rw [hx] at e1
    cases e1
    rw [hy] at e2
    cases e2
    refine ⟨_, rfl, wpAny_letOwnedTupleGo_zip (s := { s with heap := g, toks := tk }) z1 fun g2 z2 sb => ?_⟩
    have T2 : g2.get? s.heap.objs.size = some { cls := .type "tuple", data := .seq #[x1, x2] } := (sb.2 _ (Nat.ne_of_gt zlt)).trans T1
    have new : ObjOk X.prog X.w (upd H s.heap.objs.size (.tup [x, y])) g2 s.heap.objs.size (.tup [x, y]) :=
      ⟨by show 2 ≤ sizeLine; decide, [x1, x2], .cons ru (.cons rv .nil), ⟨_, T2, rfl, _, rfl⟩⟩
    have I1 : Inv X pins σ (upd H s.heap.objs.size (.tup [x, y])) { s with heap := g2, toks := tk } :=
      I.turnedNew (ch := [z, TI, TO, i1, i2]) (fun c o hb q => (sb.2 c (fun r => hb (by simp [r]))).trans (kk1 c o (fun r => hb (by simp [r])) (fun r => hb (by simp [r])) (fun r => hb (by simp [r])) (fun r => hb (by simp [r])) q)) hf (Nat.le_refl _) new
    refine ⟨.ref s.heap.objs.size, _, I1, rfl, ⟨_, x, y, rfl, I.hok.fresh (Nat.le_refl _), rfl, fun l hl => by rw [SqB.inj I hl sx]; exact hx, fun l hl => by rw [SqB.inj I hl sy]; exact hy⟩, ⟨z2, (sb.2 _ D.TIz).trans (kk1 _ _ D.TIz D.TITO D.TIi1 D.TIi2 aI), ⟨x1, x2, (sb.2 _ D.TOz).trans o1⟩, (k1 _ _ t1).at fun o q => (sb.2 _ D.i1z).trans q, (k2 _ _ t2).at fun o q => (sb.2 _ D.i2z).trans q⟩, fun c hcm => ?_⟩
    have clt : c < s.heap.objs.size := by
      simp only [List.mem_cons, List.not_mem_nil, or_false] at hcm
      rcases hcm with rfl | rfl | rfl | rfl | rfl
      · exact zlt
      · exact Heap.lt_size aI
      · exact Heap.lt_size aO
      · obtain ⟨_, e, _⟩ := j1.obj; exact Heap.lt_size e
      · obtain ⟨_, e, _⟩ := j2.obj; exact Heap.lt_size e
    rw [upd_ne (Nat.ne_of_lt clt)]
    exact (hf c hcm).1
  done := by
    intro X eP ew eK hc i pins s σ H E I hf st hg
    subst eP ew eK
    obtain ⟨az, aI, ⟨x0, y0, aO⟩, j1, j2⟩ := st
    obtain ⟨xs, ys, sx, sy, hend⟩ := hg
    have fin : ∀ {n1 n2 : Nat} {P1 P2 : Nat → Value → Prop} {S1 S2 : Nat → Heap → Prop}, Draws X.prog X.w X.A.in1 i1 [i1, a] n1 P1 S1 → S1 i s.heap → Draws X.prog X.w X.A.in1 i2 [i2, b] n2 P2 S2 → S2 i s.heap → i ≤ n1 → i ≤ n2 → (i = n1 ∨ i = n2) → wpAny (model X.prog X.w) X.A (pyNext (.ref z)) (fun r s1 => r = none ∧ L2.Inv X pins σ H s1) E s :=
      fun {n1 n2 P1 P2 S1 S2} D1 s1 D2 s2 l1 l2 e => nx_znE (sep_of D) D1 D2 az aI aO s1 s2 l1 l2 e fun g tk k => ⟨rfl, I.turnedL (t' := tk) (ch := [z, TI, TO, i1, i2]) (fun c o hb q =>
        k c o (fun r => hb (by simp [r])) (fun r => hb (by simp [r])) (fun r => hb (by simp [r])) (fun r => hb (by simp [r])) q) hf⟩
    by_cases c1 : xs.length ≤ i
    · obtain ⟨S1, D1, s1⟩ := drwE I hc D.l1i1 sx j1 c1
      by_cases c2 : ys.length ≤ i
      · obtain ⟨S2, D2, s2⟩ := drwE I hc D.l2i2 sy j2 c2
        exact fin D1 s1 D2 s2 (Nat.le_refl _) (Nat.le_refl _) (.inl rfl)
      · obtain ⟨S2, D2, s2, _⟩ := drw I hc D.l2i2 sy j2
        exact fin D1 s1 D2 s2 (Nat.le_refl _) (by omega) (.inl rfl)
    · obtain ⟨S1, D1, s1, _⟩ := drw I hc D.l1i1 sx j1
      obtain ⟨S2, D2, s2⟩ := drwE I hc D.l2i2 sy j2 (hend.resolve_left c1)
      exact fin D1 s1 D2 s2 (by omega) (Nat.le_refl _) (.inr rfl)
  self := fun A i s Q E st h => wpAny_pyIter_zip st.1 h
def iZipN (K : PySem.W.Frag) (ta : TA) : TI := fun σ H R => ta σ H fun vs H1 => ∃ t u a b xs ys, vs = [valB t a, .ref b] ∧ (t.isS = true → a = b) ∧ u.isS = false ∧ SqB K t H1 a xs ∧ SqB K u H1 b ys ∧ R (ItN K t u a b) H1
theorem pi_zn {X : Cx} {e e2 : Expr} {ta : TA} {p pos tpos : Pos} {elts : List Expr} {kk : Nat} (hg : Gl X "zip") (hm : X.mg "zip" = none) (ha : PA X [e, e2] ta)
    (hs : starEach [e, e2] X.env = (false, eval e X.env) :: starEach [e2] X.env := by rfl) (hpl : (backTo pos (starEach [e2] X.env)).any (·.1) = false := by rfl) :
    PI X (.Tuple elts kk tpos) (.Call (.Name "zip" p) [e, e2] [] pos) (iZipN X.K ta) := by
  refine ⟨fun pins s σ H R I h => ?_⟩
  refine Call_ (ld_blt I hg hm PyProof.Rows.boot_zip (PyProof.Rows.callWith_type1 (thn (ha.run pos pins s σ H _ I h) fun us s2 ⟨vs, H2, I2, r1, q1⟩ => ?_) hs hpl))
  obtain ⟨t, u, a, b, xs, ys, ex, hab, hub, sx, sy, q1⟩ := q1
  subst ex
  cases r1 with
  | cons r rr =>
    cases rr with
    | cons r' rr =>
      cases rr
      have vb : valB u b = .ref b := by
        cases u
        · rfl
        · rfl
        · cases hub
      rw [← vb] at r'
      obtain ⟨o1, C1, B1, c1, w1⟩ := SqB.begins I2 sx r
      obtain ⟨o2, C2, B2, c2, w2⟩ := SqB.begins I2 sy r'
      have lb := SqB.lt I2 sy hub
      have la : a < s2.heap.objs.size := by
        cases ht : t.isS with
        | true => rw [hab ht]; exact lb
        | false => exact SqB.lt I2 sx ht
      refine zip_begins2 B1 B2 c1 c2 fun g az aI aO g1 g2 _ k => wpAny_pyIter_zip az ?_
      have I3 : Inv X pins σ H2 { s2 with heap := g } := I2.kept (t' := s2.toks) k
      refine ⟨s2.heap.objs.size + 4, [s2.heap.objs.size + 4, s2.heap.objs.size + 2, s2.heap.objs.size + 3, s2.heap.objs.size, s2.heap.objs.size + 1], _, _, H2, rfl, I3, turn_zn (PySem.W.ktu_apart s2.heap.objs.size a b la lb), ⟨az, aI, ⟨_, _, aO⟩, w1 _ _ g1, w2 _ _ g2⟩, fun c hcm => ?_, q1⟩
      have hle : s2.heap.objs.size ≤ c := by
        simp only [List.mem_cons, List.not_mem_nil, or_false] at hcm
        rcases hcm with rfl | rfl | rfl | rfl | rfl
        · exact Nat.le_add_right _ _
        · exact Nat.le_add_right _ _
        · exact Nat.le_add_right _ _
        · exact Nat.le_refl _
        · exact Nat.le_add_right _ _
      exact I2.fpOk hle (I2.hok.fresh hle)
end Pd

/-! Pd: zip, with strict=True and without. -/
namespace Pd
open PySem PySem.Spec L2

section
variable {w : Wd} {ρ : List Addr} {H : Hp} {S : Store}
/-- where a row stands -/
def RwAt (w : Wd) (ρ : List Addr) (H : Hp) (r : Rw) (a : Addr) : Prop := match r with
  | .t xs => ∃ vs, StT w ρ H a vs ∧ RepVs w ρ H xs vs
  | .l i => ρ[i]? = some a
  | .s _ => True
theorem rep_signs {y : Str} : RepVs w ρ H (signs y) (sgs y) := by
  unfold signs sgs
  induction y.cps.toList with
  | nil => simp [RepVs]
  | cons c l ih =>
    simp only [List.map_cons, RepVs]
    exact ⟨_, _, rfl, by simp [RepV], ih⟩
theorem RwAt.read {r : Rw} {a : Addr} (h : RwAt w ρ H r a) {ρ' : List Addr} {H' : Hp} {S' : Store} (e : ExtW ρ H ρ' H') (rs : RepS w ρ' H' S') {xs : List Val} (hx : r.get S' = some xs) : ∃ vs, SqB w.K r.kind H' a vs ∧ RepVs w ρ' H' xs vs := by
  cases r with
  | t ys =>
    obtain ⟨vs, h1, h2⟩ := h
    have hx := Option.some.inj hx
    subst hx
    exact ⟨vs, (h1.extW e).sq, RepVs.extW e _ _ h2⟩
  | l i =>
    have ha : ρ'[i]? = some a := by
      obtain ⟨m, rfl, _⟩ := e.pre
      rw [List.getElem?_append_left (List.getElem?_eq_some_iff.mp h).1]; exact h
    unfold Rw.get at hx
    dsimp only at hx
    split at hx
    · rename_i ys hy
      obtain ⟨vs, h1, h2⟩ := lst_at rs ha hy
      have hx := Option.some.inj hx
      subst hx
      exact ⟨vs, SqL.of h1, h2⟩
    · cases hx
  | s y =>
    have hx := Option.some.inj hx
    subst hx
    exact ⟨_, rfl, rep_signs⟩
theorem rowV_at (rs : RepS w ρ H S) {v : Val} {x : V} {r : Rw} (rv : RepV w ρ H v x) (h : rowV S v = some r) (b : Addr) : ∃ a vs, x = valB r.kind a ∧ (r.kind.isS = true → a = b) ∧ RwAt w ρ H r a ∧ SqB w.K r.kind H a vs := by
  unfold rowV at h
  split at h
  · have h := Option.some.inj h
    subst h
    simp only [RepV] at rv
    obtain ⟨a, vs, rfl, h1, h2⟩ := rv
    exact ⟨a, vs, rfl, fun z => (nomatch z), ⟨vs, h1, h2⟩, h1.sq⟩
  · have h := Option.some.inj h
    subst h
    simp only [RepV] at rv
    subst rv
    exact ⟨b, _, rfl, fun _ => rfl, trivial, rfl⟩
  · split at h
    · rename_i xs hx
      have h := Option.some.inj h
      subst h
      simp only [RepV] at rv
      obtain ⟨a, rfl, h1⟩ := rv
      obtain ⟨vs, h2, h3⟩ := lst_at rs h1 hx
      exact ⟨a, vs, rfl, fun z => (nomatch z), h1, SqL.of h2⟩
    · cases h
  · cases h
/-- a new pair of two -/
theorem two_new {x y : Val} {u v : V} {T : Addr} (rs : RepS w ρ H S) (h : H T = none) (r : RepV w ρ H x u) (r' : RepV w ρ H y v) :
    Ext ρ H ρ (upd H T (.tup [u, v])) ∧ RepV w ρ (upd H T (.tup [u, v])) (.tup [x, y]) (.ref T) ∧ RepS w ρ (upd H T (.tup [u, v])) S := by
  refine ⟨Ext.new rs h, rep_newtup rs h ?_, rs.new h⟩
  simp only [RepVs]
  exact ⟨u, _, rfl, r, v, [], rfl, r', rfl⟩
theorem zip_at {st : Bool} {a b : Rw} {S' : Store} {k : Nat} {o : Option Val} (h : (Src.zip st a b).at S' k = some o) : ∃ xs ys, a.get S' = some xs ∧ b.get S' = some ys ∧
    ((∃ x y, xs[k]? = some x ∧ ys[k]? = some y ∧ o = some (.tup [x, y])) ∨ (o = none ∧ xs[k]? = none ∧ ys[k]? = none) ∨ (st = false ∧ o = none ∧ (xs[k]? = none ∨ ys[k]? = none))) := by
  unfold Src.at at h
  dsimp only at h
  split at h
  · rename_i xs ys hx hy
    refine ⟨xs, ys, hx, hy, ?_⟩
    cases q1 : xs[k]? with
    | none =>
      rw [q1] at h
      cases q2 : ys[k]? with
      | none =>
        rw [q2] at h
        exact .inr (.inl ⟨(Option.some.inj h).symm, rfl, rfl⟩)
      | some y =>
        rw [q2] at h
        cases st with
        | true => cases h
        | false => exact .inr (.inr ⟨rfl, (Option.some.inj h).symm, .inl rfl⟩)
    | some x =>
      rw [q1] at h
      cases q2 : ys[k]? with
      | none =>
        rw [q2] at h
        cases st with
        | true => cases h
        | false => exact .inr (.inr ⟨rfl, (Option.some.inj h).symm, .inr rfl⟩)
      | some y =>
        rw [q2] at h
        exact .inl ⟨x, y, rfl, rfl, (Option.some.inj h).symm⟩
  · cases h
theorem src_zs {ra rb : Rw} {a b : Addr} (ha : RwAt w ρ H ra a) (hb : RwAt w ρ H rb b) : SrcOk w ρ H (.zip true ra rb) (ItS w.K ra.kind rb.kind a b) := by
  intro ρ' H' S' e rs k
  refine ⟨fun q => ?_, fun x q => ?_⟩
  · obtain ⟨xs, ys, h1, h2, h3⟩ := zip_at q
    obtain ⟨vs, s1, r1⟩ := ha.read e rs h1
    obtain ⟨us, s2, r2⟩ := hb.read e rs h2
    rcases h3 with ⟨_, _, _, _, z⟩ | ⟨_, h4, h5⟩ | ⟨z, _⟩
    · cases z
    · exact ⟨vs, us, s1, s2, by rw [r1.length]; exact List.getElem?_eq_none_iff.mp h4, by rw [r2.length]; exact List.getElem?_eq_none_iff.mp h5⟩
    · cases z
  · obtain ⟨xs, ys, h1, h2, h3⟩ := zip_at q
    obtain ⟨vs, s1, r1⟩ := ha.read e rs h1
    obtain ⟨us, s2, r2⟩ := hb.read e rs h2
    rcases h3 with ⟨x1, y1, h4, h5, z⟩ | ⟨z, _⟩ | ⟨_, z, _⟩
    · cases z
      obtain ⟨v, h6, h7⟩ := r1.get h4
      obtain ⟨u, h8, h9⟩ := r2.get h5
      refine ⟨⟨vs, us, v, u, s1, s2, h6, h8⟩, fun w2 H2 yl => ?_⟩
      obtain ⟨T, p, q, rfl, hT, rfl, y1, y2⟩ := yl
      have e1 := y1 vs s1
      rw [h6] at e1
      cases e1
      have e2 := y2 us s2
      rw [h8] at e2
      cases e2
      exact two_new rs hT h7 h9
    · cases z
    · cases z
theorem src_zn {ra rb : Rw} {a b : Addr} (ha : RwAt w ρ H ra a) (hb : RwAt w ρ H rb b) : SrcOk w ρ H (.zip false ra rb) (ItN w.K ra.kind rb.kind a b) := by
  intro ρ' H' S' e rs k
  refine ⟨fun q => ?_, fun x q => ?_⟩
  · obtain ⟨xs, ys, h1, h2, h3⟩ := zip_at q
    obtain ⟨vs, s1, r1⟩ := ha.read e rs h1
    obtain ⟨us, s2, r2⟩ := hb.read e rs h2
    refine ⟨vs, us, s1, s2, ?_⟩
    rcases h3 with ⟨_, _, _, _, z⟩ | ⟨_, h4, _⟩ | ⟨_, _, h4 | h4⟩
    · cases z
    · exact .inl (by rw [r1.length]; exact List.getElem?_eq_none_iff.mp h4)
    · exact .inl (by rw [r1.length]; exact List.getElem?_eq_none_iff.mp h4)
    · exact .inr (by rw [r2.length]; exact List.getElem?_eq_none_iff.mp h4)
  · obtain ⟨xs, ys, h1, h2, h3⟩ := zip_at q
    obtain ⟨vs, s1, r1⟩ := ha.read e rs h1
    obtain ⟨us, s2, r2⟩ := hb.read e rs h2
    rcases h3 with ⟨x1, y1, h4, h5, z⟩ | ⟨z, _⟩ | ⟨_, z, _⟩
    · cases z
      obtain ⟨v, h6, h7⟩ := r1.get h4
      obtain ⟨u, h8, h9⟩ := r2.get h5
      refine ⟨⟨vs, us, v, u, s1, s2, h6, h8⟩, fun w2 H2 yl => ?_⟩
      obtain ⟨T, p, q, rfl, hT, rfl, y1, y2⟩ := yl
      have e1 := y1 vs s1
      rw [h6] at e1
      cases e1
      have e2 := y2 us s2
      rw [h8] at e2
      cases e2
      exact two_new rs hT h7 h9
    · cases z
    · cases z
end
section
variable {w : Wd} {T : Tab} {fuel k : Nat} {N : List Str} {ow sc : Scope} {W : WX} {X : Cx}
theorem di_zip (G : Good w T fuel k N ow sc W X) {e e' : Expr} {m m' : Env → M Val} {p pos tpos : Pos} {elts : List Expr} {kk : Nat} (hg : glB sc "zip" = true) (hm : ("zip" : Str) ∈ T.blts) (hs : ∀ x p, e ≠ .Starred x p) (hs' : ∀ x p, e' ≠ .Starred x p) (h : DE w W X e m) (h' : DE w W X e' m') :
    DI w W X (.Tuple elts kk tpos) (.Call (.Name "zip" p) [e, e'] [] pos) (fun env => do let x ← m env; let y ← m' env; zipV false x y) := by
  obtain ⟨t, pt, q⟩ := h.ex
  obtain ⟨t', pt', q'⟩ := h'.ex
  refine ⟨_, pi_zn (gl_of G hg) (G.blts _ hm) (pa_cons pt (pa_cons pt' pa_nil (star_cons hs')) (star_cons hs)) (star_cons hs) (by rw [star_cons hs']; rfl), fun ρ σ H env S R re rs p => ?_⟩
  refine q ρ σ H env S _ re rs (p.bind.imp fun x H1 ⟨u, ρ1, S1, e1, r1, s1, p1⟩ => ?_)
  refine q' ρ1 σ H1 env S1 _ (re.ext e1) s1 (p1.bind.imp fun y H2 ⟨v, ρ2, S2, e2, r2, s2, p2⟩ => ?_)
  have r1 := r1.ext e2
  unfold zipV at p2
  show ∃ t u a b xs ys, [x, y] = [valB t a, .ref b] ∧ _
  rw [G.hK]
  split at p2
  · rename_i ra rb hra hrb
    obtain ⟨b, us, rfl, _, h3, h4⟩ := rowV_at s2 r2 hrb 0
    obtain ⟨a, vs, rfl, hab, h1, h2⟩ := rowV_at s2 r1 hra b
    split at p2
    · rename_i hc
      have hub : rb.kind.isS = false := by simpa using hc
      have vb : valB rb.kind b = .ref b := by
        cases rb
        · rfl
        · rfl
        · cases hub
      exact ⟨_, _, a, b, vs, us, by rw [vb], hab, hub, h2, h4, p2.ok (src_zn h1 h3) s2⟩
    · exact p2.elim
  · exact p2.elim
theorem di_zips (G : Good w T fuel k N ow sc W X) {e e' : Expr} {m m' : Env → M Val} {p pos tpos : Pos} {elts : List Expr} {kk : Nat} {kws : List Keyword} (hk : strictB kws = true) (hg : glB sc "zip" = true) (hm : ("zip" : Str) ∈ T.blts) (hs : ∀ x p, e ≠ .Starred x p) (hs' : ∀ x p, e' ≠ .Starred x p) (h : DE w W X e m) (h' : DE w W X e' m') :
    DI w W X (.Tuple elts kk tpos) (.Call (.Name "zip" p) [e, e'] kws pos) (fun env => do let x ← m env; let y ← m' env; zipV true x y) := by
  unfold strictB at hk
  split at hk
  · rename_i n ck cp kp
    have hk := of_decide_eq_true hk
    subst hk
    obtain ⟨t, pt, q⟩ := h.ex
    obtain ⟨t', pt', q'⟩ := h'.ex
    refine ⟨_, pi_zs (gl_of G hg) (G.blts _ hm) (pa_cons pt (pa_cons pt' pa_nil (star_cons hs')) (star_cons hs)) (star_cons hs) (by rw [star_cons hs, star_cons hs']; rfl), fun ρ σ H env S R re rs p => ?_⟩
    refine q ρ σ H env S _ re rs (p.bind.imp fun x H1 ⟨u, ρ1, S1, e1, r1, s1, p1⟩ => ?_)
    refine q' ρ1 σ H1 env S1 _ (re.ext e1) s1 (p1.bind.imp fun y H2 ⟨v, ρ2, S2, e2, r2, s2, p2⟩ => ?_)
    have r1 := r1.ext e2
    unfold zipV at p2
    show ∃ t u a b xs ys, [x, y] = [valB t a, .ref b] ∧ _
    rw [G.hK]
    split at p2
    · rename_i ra rb hra hrb
      obtain ⟨b, us, rfl, _, h3, h4⟩ := rowV_at s2 r2 hrb 0
      obtain ⟨a, vs, rfl, hab, h1, h2⟩ := rowV_at s2 r1 hra b
      split at p2
      · rename_i hc
        have hub : rb.kind.isS = false := by simpa using hc
        have vb : valB rb.kind b = .ref b := by
          cases rb
          · rfl
          · rfl
          · cases hub
        exact ⟨_, _, a, b, vs, us, by rw [vb], hab, hub, h2, h4, p2.ok (src_zs h1 h3) s2⟩
      · exact p2.elim
    · exact p2.elim
  · cases hk
end
end Pd

/-! Pd: comprehensions with two walks. -/
namespace Pd
open PySem PySem.Spec L2

/-- a walk, one reading for every context -/
def tiOf (w : Wd) (W : WX) (m : Env → M Src) : TI := fun σ H R => ∃ ρ env S, RepE w ρ H env σ ∧ RepS w ρ H S ∧ Post w W σ (SrcOk w) ρ H (m env S) R
theorem DI.pi {w : Wd} {W : WX} {X : Cx} {tg e : Expr} {m : Env → M Src} (h : DI w W X tg e m) : PI X tg e (tiOf w W m) := by
  obtain ⟨t, pt, q⟩ := h.ex
  exact ⟨fun pins s σ H R I ⟨ρ, env, S, r1, r2, p⟩ => pt.run pins s σ H R I (q ρ σ H env S R r1 r2 p)⟩
theorem comp2Loop_eq (src : Src) (put : Store → Val → Option Env) (keep : Env → M Bool) (inner : Env → List Val → M (List Val)) (m i : Nat) (acc : List Val) (S : Store) : comp2Loop src put keep inner m i acc S = match src.at S i with
    | none => .bad
    | some none => .ok acc S
    | some (some x) => match m with
      | 0 => .bad
      | n + 1 => match put S x with
        | none => .bad
        | some env => (keep env >>= fun c => if c then (inner env acc >>= fun acc' => comp2Loop src put keep inner n (i + 1) acc')
            else comp2Loop src put keep inner n (i + 1) acc) S := by
  cases m <;> (conv => lhs; unfold comp2Loop) <;> cases src.at S i with | none => rfl | some o => cases o <;> rfl
def innM (mi : Env → M Src) (inn : List Nat) (t : IT) (mk : Env → M Bool) (me : Env → M Val) : Env → List Val → M (List Val) := fun env1 acc => do
  let src2 ← mi env1
  let env2 := envDels env1 inn
  fun S => compLoop src2 (fun S x => evT S t x env2) mk me (src2.len S) 0 acc S
def Res.bnd {α β : Type} (r : Res α) (f : α → Store → Res β) : Res β := match r with
  | .ok a S => f a S
  | .exc x S => .exc x S
  | .bad => .bad
theorem bind_bnd {α β : Type} (m : M α) (f : α → M β) (S : Store) : (m >>= f) S = (m S).bnd fun a S' => f a S' := rfl
theorem innM_app {mi : Env → M Src} {inn : List Nat} {t : IT} {mk : Env → M Bool} {me : Env → M Val} {env1 : Env} {acc : List Val} {S : Store} : innM mi inn t mk me env1 acc S = match mi env1 S with
    | .ok src2 S' => compLoop src2 (fun S x => evT S t x (envDels env1 inn)) mk me (src2.len S') 0 acc S'
    | .exc x S' => .exc x S'
    | .bad => .bad := by
  refine (bind_app (mi env1) (fun src2 => (fun S => compLoop src2 (fun S x => evT S t x (envDels env1 inn)) mk me (src2.len S) 0 acc S : M (List Val))) S).trans ?_
  cases mi env1 S <;> rfl
def comp2M (mi : Env → M Src) (own : List Nat) (t : IT) (mk : Env → M Bool) (mi2 : Env → M Src) (inn : List Nat) (t2 : IT) (mk2 : Env → M Bool) (me : Env → M Val) : Env → M Val := fun env => do
  let src ← mi env
  let env' := envDels env own
  let xs ← noExc fun S => comp2Loop src (fun S x => evT S t x env') mk (innM mi2 inn t2 mk2 me) (src.len S) 0 [] S
  alloc (.lst xs)
section
variable {w : Wd} {T : Tab} {fuel k : Nat} {N : List Str} {ow sc : Scope} {W : WX} {X : Cx}
theorem lc2_ok {own inn : List Nat} {t t2 : IT} {mi mi2 : Env → M Src} {mk mk2 : Env → M Bool} {me : Env → M Val} {ti : TI}
    (ho : ∀ i ∈ slotsT t, i ∈ own) (hi2 : ∀ i ∈ slotsT t2, i ∈ inn) (qi : ∀ ρ σ H env S (R : It → Hp → Prop), RepE w ρ H env σ → RepS w ρ H S → Post w W σ (SrcOk w) ρ H (mi env S) R → ti σ H R)
    {ρ : List Addr} {σ : L2.St} {H : Hp} {env : Env} {S : Store} {Q : VK} (re : RepE w ρ H env σ) (rs : RepS w ρ H S) (p : Post w W σ (RepV w) ρ H (comp2M mi own t mk mi2 inn t2 mk2 me env S) Q) :
    tLc2 ti (gOf w t) (ttOf w WF mk) (tiOf w WF mi2) (gOf w t2) (ttOf w WF mk2) (tOf w WF me) own inn σ H Q := by
  unfold comp2M at p
  refine qi ρ σ H env S _ re rs (p.bind.imp fun J H1 ⟨src, ρ1, S1, e1, r1, s1, p1⟩ D hD => ?_)
  have re1 := (re.ext e1).dels own
  have p1 := (congrArg (fun r => Post w W σ (RepV w) ρ1 H1 r Q) (noExc_bind (fun S => comp2Loop src (fun S x => evT S t x (envDels env own)) mk (innM mi2 inn t2 mk2 me) (src.len S) 0 [] S) (fun xs => alloc (.lst xs)) S1)).mp p1
  generalize envDels env own = env' at p1 re1
  generalize hG : (fun (n i : Nat) (acc : List Val) (S : Store) => (comp2Loop src (fun S x => evT S t x env') mk (innM mi2 inn t2 mk2 me) n i acc S).onOk fun xs => alloc (.lst xs)) = G
  have p1 : Post w W σ (RepV w) ρ1 H1 (G (src.len S1) 0 [] S1) Q := by rw [← hG]; exact p1
  refine ⟨fun i m H' => ∃ ρk Sk acc vs, Ext ρ1 H1 ρk H' ∧ RepS w ρk H' Sk ∧ D ∉ ρk ∧ H' D = some (.lst vs) ∧ RepVs w ρk H' acc vs ∧ Post w W σ (RepV w) ρ1 H1 (G m i acc Sk) Q,
    ⟨src.len S1, ρ1, S1, [], [], Ext.new s1 hD, s1.new hD, s1.none_out hD, upd_same, by simp [RepVs], p1⟩, ?_⟩
  rintro i m H2 ⟨ρk, Sk, acc, vs, ek, sk, nD, hDk, rk, pk⟩
  rw [← hG] at pk
  dsimp only at pk
  rw [comp2Loop_eq] at pk
  obtain ⟨go1, go2⟩ := r1 ρk H2 Sk ek.wk sk i
  cases qa : src.at Sk i with
  | none => rw [qa] at pk; exact pk.elim
  | some o =>
    rw [qa] at pk
    cases o with
    | none =>
      refine .inl ⟨go1 qa, ?_⟩
      dsimp only at pk
      refine pk (.ref D) (ρk ++ [D]) H2 (ek.adopt hD) ?_ (sk.adopt hDk bare_lst nD ⟨_, rfl, rk⟩)
      · simp only [RepV]
        exact ⟨D, rfl, by rw [← sk.len]; simp⟩
    | some x =>
      obtain ⟨go, gy⟩ := go2 x qa
      dsimp only at pk
      cases m with
      | zero => exact pk.elim
      | succ n =>
        dsimp only at pk
        cases qp : evT Sk t x env' with
        | none => rw [qp] at pk; exact pk.elim
        | some env2 =>
          rw [qp] at pk
          refine .inr ⟨go, _, fun H' nx => ⟨n, Nat.lt_succ_self n, nx⟩, fun v H3 yl => ?_⟩
          obtain ⟨ey, rv, sy⟩ := gy v H3 yl
          have ek3 := ek.trans ey
          have hD3 := ey.oth D _ hDk nD
          refine ⟨ρk, Sk, env', env2, x, re1.ext ek3, rv, sy, qp, fun σ2 re2 hl hσ => ⟨(wipe_eq hl hσ ho).trans (wipe_eq (is := own) (wipe_length _ _) (fun i hi => wipe_out hi) fun i hi => hi), ρk, env2, Sk, re2, sy, ?_⟩⟩
          dsimp only at pk
          rw [bind_app] at pk
          cases qk : mk env2 Sk with
          | bad => rw [qk] at pk; exact pk.elim
          | exc y S' => rw [qk] at pk; exact pk.elim
          | ok c S2 =>
            rw [qk] at pk
            dsimp only at pk
            refine fun b ρ4 H4 e4 hb s4 => ?_
            subst hb
            have hD4 := e4.oth D _ hD3 nD
            have nD4 := e4.out hD3 nD
            have ek4 := ek3.trans e4
            have rk4 := (rk.ext ey).ext e4
            cases c with
            | false =>
              rw [if_neg Bool.false_ne_true] at pk ⊢
              refine ⟨ρ4, S2, acc, vs, ek4, s4, nD4, hD4, rk4, ?_⟩
              rw [← hG]
              exact pk
            | true =>
              rw [if_pos rfl] at pk ⊢
              refine ⟨ρ4, env2, S2, re2.ext e4, s4, ?_⟩
              rw [bind_bnd, innM_app] at pk
              cases qi2 : mi2 env2 S2 with
              | bad => rw [qi2] at pk; exact pk.elim
              | exc y S' => rw [qi2] at pk; exact pk.elim
              | ok src2 S3 =>
                rw [qi2] at pk
                dsimp only at pk
                refine fun J1 ρ5 H5 e5 rJ s5 => ?_
                have hD5 := e5.oth D _ hD4 nD4
                have nD5 := e5.out hD4 nD4
                have ek5 := ek4.trans e5
                have re5 : RepE w ρ5 H5 (envDels env2 inn) (wipe σ2 inn) := ((re2.ext e4).ext e5).dels inn
                have rk5 := rk4.ext e5
                generalize envDels env2 inn = env3 at pk re5
                generalize hL : (fun (k j : Nat) (acc : List Val) (S : Store) => Res.onOk ((compLoop src2 (fun S x => evT S t2 x env3) mk2 me k j acc S).bnd fun a S' => comp2Loop src (fun S x => evT S t x env') mk (innM mi2 inn t2 mk2 me) n (i + 1) a S') fun xs => alloc (.lst xs)) = L
                have pk : Post w W σ (RepV w) ρ1 H1 (L (src2.len S3) 0 acc S3) Q := by rw [← hL]; exact pk
                refine ⟨fun j k H' => ∃ ρj Sj accj vsj, Ext ρ1 H1 ρj H' ∧ ExtW ρ5 H5 ρj H' ∧ RepS w ρj H' Sj ∧ D ∉ ρj ∧ H' D = some (.lst vsj) ∧ RepVs w ρj H' accj vsj ∧ Post w W σ (RepV w) ρ1 H1 (L k j accj Sj) Q,
                  ⟨src2.len S3, ρ5, S3, acc, vs, ek5, (Ext.refl _ _).wk, s5, nD5, hD5, rk5, pk⟩, ?_⟩
                rintro j kk H6 ⟨ρj, Sj, accj, vsj, ekj, ej, sj, nDj, hDj, rj, pj⟩
                rw [← hL] at pj
                dsimp only at pj
                rw [compLoop_eq] at pj
                obtain ⟨g1, g2⟩ := rJ ρj H6 Sj ej sj j
                cases qb : src2.at Sj j with
                | none => rw [qb] at pj; exact pj.elim
                | some o2 =>
                  rw [qb] at pj
                  cases o2 with
                  | none =>
                    refine .inl ⟨g1 qb, ρj, Sj, accj, vsj, ekj, sj, nDj, hDj, rj, ?_⟩
                    rw [← hG]
                    exact pj
                  | some x2 =>
                    obtain ⟨gg, gy2⟩ := g2 x2 qb
                    dsimp only at pj
                    cases kk with
                    | zero => exact pj.elim
                    | succ n2 =>
                      dsimp only at pj
                      cases qq : evT Sj t2 x2 env3 with
                      | none => rw [qq] at pj; exact pj.elim
                      | some env4 =>
                        rw [qq] at pj
                        refine .inr ⟨gg, _, fun H' nx => ⟨n2, Nat.lt_succ_self n2, nx⟩, fun v2 H7 yl2 => ?_⟩
                        obtain ⟨ez, rz, sz⟩ := gy2 v2 H7 yl2
                        have ek7 := ekj.trans ez
                        have ew7 := ej.more ez
                        have hD7 := ez.oth D _ hDj nDj
                        refine ⟨ρj, Sj, env3, env4, x2, RepE.extW ew7 _ _ re5, rz, sz, qq, fun σ3 re6 hl2 hσ2 => ⟨(wipe_eq hl2 hσ2 hi2).trans (wipe_eq (is := inn) (wipe_length _ _) (fun i hi => wipe_out hi) fun i hi => hi), ρj, env4, Sj, re6, sz, ?_⟩⟩
                        dsimp only at pj
                        rw [bind_app] at pj
                        cases qm : mk2 env4 Sj with
                        | bad => rw [qm] at pj; exact pj.elim
                        | exc y S' => rw [qm] at pj; exact pj.elim
                        | ok c2 S4 =>
                          rw [qm] at pj
                          dsimp only at pj
                          refine fun b2 ρ8 H8 e8 hb2 s8 => ?_
                          subst hb2
                          have hD8 := e8.oth D _ hD7 nDj
                          have nD8 := e8.out hD7 nDj
                          have ek8 := ek7.trans e8
                          have ew8 := ew7.more e8
                          have rk8 := (rj.ext ez).ext e8
                          cases c2 with
                          | false =>
                            rw [if_neg Bool.false_ne_true] at pj ⊢
                            refine ⟨ρ8, S4, accj, vsj, ek8, ew8, s8, nD8, hD8, rk8, ?_⟩
                            rw [← hL]
                            exact pj
                          | true =>
                            rw [if_pos rfl] at pj ⊢
                            refine ⟨ρ8, env4, S4, re6.ext e8, s8, ?_⟩
                            rw [bind_app] at pj
                            cases qe : me env4 S4 with
                            | bad => rw [qe] at pj; exact pj.elim
                            | exc y S' => rw [qe] at pj; exact pj.elim
                            | ok u S5 =>
                              rw [qe] at pj
                              dsimp only at pj
                              refine fun y ρ9 H9 e9 ry s9 => ?_
                              have hD9 := e9.oth D _ hD8 nD8
                              have nD9 := e9.out hD8 nD8
                              have ek9 := ek8.trans e9
                              have ew9 := ew8.more e9
                              rw [bind_app, need_app] at pj
                              by_cases hz : accj.length < sizeMax
                              · rw [if_pos (by simpa using hz)] at pj
                                dsimp only at pj
                                have rk9 := rk8.ext e9
                                refine ⟨vsj, hD9, by rw [rk9.length, ← size_eq]; exact hz, ρ9, S5, accj ++ [u], vsj ++ [y], ek9.own hD _, ew9.own hD5 bare_lst _, s9.own hD9 bare_lst nD9, nD9, upd_same, (rk9.append (by simp only [RepVs]; exact ⟨y, [], rfl, ry, rfl⟩)).own hD9 bare_lst, ?_⟩
                                rw [← hL]
                                exact pj
                              · rw [if_neg (by simpa using hz)] at pj
                                exact pj.elim
/-- a comprehension with two walks -/
theorem de_comp2 (G : Good w T fuel k N ow sc W X) {elt tg iter tg2 iter2 : Expr} {ifs ifs2 : List Expr} {scope : Scope} {own : List (Str × Nat)} {inn : List Nat} {pos : Pos} {t t2 : IT} {mi mi2 : Env → M Src} {mk mk2 : Env → M Bool} {me : Env → M Val}
    (ok : BlkOk N sc scope own) (hi : DI w W X tg iter mi) (ht : chkT T N scope (relS scope sc) t tg = true) (ho : ∀ i ∈ slotsT t, i ∈ own.map (·.2)) (hn : ∀ i ∈ inn, i ∈ own.map (·.2)) (ht2 : chkT T N scope (relS scope sc) t2 tg2 = true) (hi2 : ∀ i ∈ slotsT t2, i ∈ inn)
    (hk : ∀ X', Good w T fuel k N scope (relS scope sc) WF X' → (ifs = [] ∧ mk = fun _ => pure true) ∨ ∃ c, ifs = [c] ∧ DT w WF X' c mk)
    (hj : ∀ X', Good w T fuel k N scope (relS scope sc) WF X' → DI w WF X' tg2 iter2 mi2)
    (hk2 : ∀ X', Good w T fuel k N scope (relS scope sc) WF X' → (ifs2 = [] ∧ mk2 = fun _ => pure true) ∨ ∃ c, ifs2 = [c] ∧ DT w WF X' c mk2)
    (he : ∀ X', Good w T fuel k N scope (relS scope sc) WF X' → DE w WF X' elt me)
    (hs : ∀ x, foldedSetIterable iter X.env x = pure x) (hs2 : ∀ env x, foldedSetIterable iter2 env x = pure x) :
    DE w W X (.ListComp elt [⟨tg, iter, ifs, 0⟩, ⟨tg2, iter2, ifs2, 0⟩] scope pos) (comp2M mi (own.map (·.2)) t mk mi2 inn t2 mk2 me) := by
  obtain ⟨ti, pi, qi⟩ := hi.ex
  have B := fun s H C cl fp => good_blk G s H scope cl C fp
  exact ⟨_, pe_lc2 (g := gOf w t) (tt := ttOf w WF mk) (wi1 := tiOf w WF mi2) (g1 := gOf w t2) (tt1 := ttOf w WF mk2) (te := tOf w WF me) (vs1 := inn) G.calm G.nd pi (by rw [G.hN, G.hsc]; exact ok) hn (fun s H C cl fp => pg_of (B s H C cl fp) ht)
    (fun s H C cl fp => pts_of (hk _ (B s H C cl fp))) (fun s H C cl fp => (hj _ (B s H C cl fp)).pi) (fun s H C cl fp => pg_of (B s H C cl fp) ht2) (fun s H C cl fp => pts_of (hk2 _ (B s H C cl fp))) (fun s H C cl fp => (he _ (B s H C cl fp)).pe) hs hs2,
    fun ρ σ H env S Q re rs p => lc2_ok ho hi2 qi re rs p⟩
end
end Pd

/-! Pd: dict displays, dict comprehensions. -/
namespace Pd
open PySem PySem.Spec L2

/-- a step from a later base, the first base kept -/
theorem Post.bind1 {α β α' β' : Type} {w : Wd} {W : WX} {σ : L2.St} {rel : List Addr → Hp → α → β → Prop} {rel' : List Addr → Hp → α' → β' → Prop} {ρ ρ0 : List Addr} {H H0 : Hp} {S : Store} {m : M α} {f : α → M α'} {Q : β' → Hp → Prop}
    (e0 : Ext ρ H ρ0 H0) (h : Post w W σ rel' ρ H ((m >>= f) S) Q) :
    Post w W σ rel ρ0 H0 (m S) (fun x H1 => ∃ v ρ1 S1, Ext ρ0 H0 ρ1 H1 ∧ rel ρ1 H1 v x ∧ RepS w ρ1 H1 S1 ∧ Post w W σ rel' ρ H (f v S1) Q) := by
  rw [bind_app] at h
  cases q : m S with
  | ok v S1 =>
    rw [q] at h
    exact fun x ρ1 H1 e1 e2 e3 => ⟨v, ρ1, S1, e1, e2, e3, h⟩
  | exc x S1 =>
    rw [q] at h
    exact fun c d ρ' H' e1 e2 e3 => h c d ρ' H' (e0.trans e1) e2 e3
  | bad => rw [q] at h; exact h

def RepPs (w : Wd) (ρ : List Addr) (H : Hp) (kvs : List (DKey × Val)) (ps : List (V × V)) : Prop := ∃ vs, RepKV w ρ H kvs vs ∧ ps = vs.map fun e => (kV e.1, e.2)
/-- the pairs of a display -/
structure DPs (w : Wd) (W : WX) (X : Cx) (pos : Pos) (ks : List (Option Expr)) (vs : List Expr) (m : Env → M (List (DKey × Val))) : Prop where
  ex : ∃ trs, PPs X pos ks vs trs ∧ ∀ ρ σ H env S (Q : List (V × V) → Hp → Prop), RepE w ρ H env σ → RepS w ρ H S → Post w W σ (RepPs w) ρ H (m env S) Q → tPairs trs σ H Q
section
variable {w : Wd} {T : Tab} {fuel k : Nat} {N : List Str} {ow sc : Scope} {W : WX} {X : Cx} {tg : Expr}
theorem dps_nil {pos : Pos} : DPs w W X pos [] [] (fun _ => pure []) := ⟨_, pps_nil, fun ρ σ H env S Q re rs p => p.ok ⟨[], by simp [RepKV], rfl⟩ rs⟩
theorem dps_cons {pos : Pos} {kx vx : Expr} {ks : List (Option Expr)} {vs : List Expr} {mk me : Env → M Val} {ms : Env → M (List (DKey × Val))} (hk : DE w W X kx mk) (he : DE w W X vx me) (hs : DPs w W X pos ks vs ms) :
    DPs w W X pos (some kx :: ks) (vx :: vs) (fun env => do
      let x ← mk env
      let v ← me env
      let r ← ms env
      match keyOf x with
      | some q => pure ((q, v) :: r)
      | none => stuck) := by
  obtain ⟨tk, pk, qk⟩ := hk.ex
  obtain ⟨te, pe, qe⟩ := he.ex
  obtain ⟨ts, ps, qs⟩ := hs.ex
  refine ⟨_, pps_cons pk pe ps, fun ρ σ H env S Q re rs p => ?_⟩
  refine qk ρ σ H env S _ re rs (p.bind.imp fun x H1 ⟨u, ρ1, S1, e1, r1, s1, p1⟩ => ?_)
  refine qe ρ1 σ H1 env S1 _ (re.ext e1) s1 (p1.bind.imp fun y H2 ⟨v, ρ2, S2, e2, r2, s2, p2⟩ => ?_)
  refine qs ρ2 σ H2 env S2 _ ((re.ext e1).ext e2) s2 (p2.bind.imp fun l H3 ⟨r, ρ3, S3, e3, r3', s3, p3⟩ => ?_)
  obtain ⟨vs, r3, rfl⟩ := r3'
  cases hq : keyOf u with
  | none => rw [hq] at p3; exact p3.elim
  | some q =>
    rw [hq] at p3
    have ek := key_kV hq ((r1.ext e2).ext e3)
    refine Post.ok p3 ⟨(q, y) :: vs, ?_, by rw [List.map_cons, ← ek]⟩ s3
    simp only [RepKV]
    exact ⟨y, vs, rfl, r2.ext e3, r3⟩
theorem de_dsp0 {pos : Pos} : DE w W X (.Dict [] [] pos) (fun _ => do let kvs ← (pure [] : M (List (DKey × Val))); alloc (.dct (mergeV [] kvs))) :=
  ⟨_, pe_dnewK, fun ρ σ H env S Q re rs p => Post.alloc_dct (vs := []) p rs (by simp [mergeV, RepKV])⟩
theorem de_dsp {pos : Pos} {ks : List (Option Expr)} {vs : List Expr} {m : Env → M (List (DKey × Val))} (h : DPs w W X pos ks vs m) (hall : ks.all (·.isSome) = true) (hl : ks.length = vs.length) (h0 : ks ≠ []) (h15 : ks.length ≤ 15)
    (hlen : ∀ env S kvs S', m env S = .ok kvs S' → kvs.length = ks.length) : DE w W X (.Dict ks vs pos) (fun env => do let kvs ← m env; alloc (.dct (mergeV [] kvs))) := by
  obtain ⟨trs, pt, q⟩ := h.ex
  refine ⟨_, pe_disp pt hall hl h0 h15, fun ρ σ H env S Q re rs p D hD => ?_⟩
  have E0 := Ext.new (o := .dK []) rs hD
  have nD := rs.none_out hD
  cases qm : m env S with
  | bad => rw [bind_app, qm] at p; exact p.elim
  | exc x S1 =>
    refine q ρ σ _ env S _ (re.ext E0) (rs.new hD) ?_
    rw [bind_app, qm] at p
    rw [qm]
    exact fun c d ρ' H' e1 e2 e3 => p c d ρ' H' (E0.trans e1) e2 e3
  | ok kvs S1 =>
    have hn := hlen env S kvs S1 qm
    rw [bind_app, qm] at p
    refine q ρ σ _ env S _ (re.ext E0) (rs.new hD) ?_
    rw [qm]
    rintro ps ρ1 H2 e1 ⟨vs', r1, rfl⟩ s1
    have hD2 := e1.oth D _ upd_same nD
    have nD2 := e1.out upd_same nD
    have hlv : vs'.length = kvs.length := r1.length
    refine ⟨hD2, vs', rfl, by omega, ?_⟩
    have r2 := (RepKV.merge (kvs := []) (vs := []) r1 (by simp [RepKV])).own (o' := .dK (mergeK [] vs')) hD2 bare_dK
    have s2 := (s1.own (o' := .dK (mergeK [] vs')) hD2 bare_dK nD2).adopt (c := .dct (mergeV [] kvs)) upd_same bare_dK nD2 ⟨_, rfl, r2⟩
    refine p (.ref D) (ρ1 ++ [D]) _ (((E0.trans e1).own hD _).adopt hD) ?_ s2
    simp only [RepV]
    exact ⟨D, rfl, by rw [← s1.len]; simp⟩

/-! ### dict comprehensions -/
theorem dcompLoop_eq (src : Src) (put : Store → Val → Option Env) (keep : Env → M Bool) (key elt : Env → M Val) (m i : Nat) (acc : List (DKey × Val)) (S : Store) : dcompLoop src put keep key elt m i acc S = match src.at S i with
    | none => .bad
    | some none => .ok acc S
    | some (some x) => match m with
      | 0 => .bad
      | n + 1 => match put S x with
        | none => .bad
        | some env => (keep env >>= fun c => if c then (key env >>= fun y => elt env >>= fun v => match keyOf y with
              | some q => need (decide (acc.length < sizeMax)) >>= fun _ => dcompLoop src put keep key elt n (i + 1) (putV acc q v)
              | none => stuck)
            else dcompLoop src put keep key elt n (i + 1) acc) S := by
  cases m <;> (conv => lhs; unfold dcompLoop) <;> cases src.at S i with | none => rfl | some o => cases o <;> rfl
def dcompM (mi : Env → M Src) (own : List Nat) (t : IT) (mk : Env → M Bool) (mx me : Env → M Val) : Env → M Val := fun env => do
  let src ← mi env
  let env' := envDels env own
  let kvs ← noExc fun S => dcompLoop src (fun S x => evT S t x env') mk mx me (src.len S) 0 [] S
  alloc (.dct kvs)
theorem dc_ok {own : List Nat} {t : IT} {mi : Env → M Src} {mk : Env → M Bool} {mx me : Env → M Val} {ti : TI}
    (ho : ∀ i ∈ slotsT t, i ∈ own) (qi : ∀ ρ σ H env S (R : It → Hp → Prop), RepE w ρ H env σ → RepS w ρ H S → Post w W σ (SrcOk w) ρ H (mi env S) R → ti σ H R)
    {ρ : List Addr} {σ : L2.St} {H : Hp} {env : Env} {S : Store} {Q : VK} (re : RepE w ρ H env σ) (rs : RepS w ρ H S) (p : Post w W σ (RepV w) ρ H (dcompM mi own t mk mx me env S) Q) :
    tDc ti (gOf w t) (ttOf w WF mk) (tOf w WF mx) (tOf w WF me) own σ H Q := by
  unfold dcompM at p
  refine qi ρ σ H env S _ re rs (p.bind.imp fun J H1 ⟨src, ρ1, S1, e1, r1, s1, p1⟩ D hD => ?_)
  have re1 := (re.ext e1).dels own
  have p1 := (congrArg (fun r => Post w W σ (RepV w) ρ1 H1 r Q) (noExc_bind (fun S => dcompLoop src (fun S x => evT S t x (envDels env own)) mk mx me (src.len S) 0 [] S) (fun kvs => alloc (.dct kvs)) S1)).mp p1
  generalize envDels env own = env' at p1 re1
  refine ⟨fun i m H' => ∃ ρk Sk acc vs, Ext ρ1 H1 ρk H' ∧ RepS w ρk H' Sk ∧ D ∉ ρk ∧ H' D = some (.dK vs) ∧ RepKV w ρk H' acc vs ∧
    Post w W σ (RepV w) ρ1 H1 ((dcompLoop src (fun S x => evT S t x env') mk mx me m i acc Sk).onOk fun kvs => alloc (.dct kvs)) Q, ⟨src.len S1, ρ1, S1, [], [], Ext.new s1 hD, s1.new hD, s1.none_out hD, upd_same, by simp [RepKV], p1⟩, ?_⟩
  rintro i m H2 ⟨ρk, Sk, acc, vs, ek, sk, nD, hDk, rk, pk⟩
  rw [dcompLoop_eq] at pk
  obtain ⟨go1, go2⟩ := r1 ρk H2 Sk ek.wk sk i
  cases qa : src.at Sk i with
  | none => rw [qa] at pk; exact pk.elim
  | some o =>
    rw [qa] at pk
    cases o with
    | none =>
      refine .inl ⟨go1 qa, ?_⟩
      dsimp only at pk
      refine pk (.ref D) (ρk ++ [D]) H2 (ek.adopt hD) ?_ (sk.adopt hDk bare_dK nD ⟨_, rfl, rk⟩)
      simp only [RepV]
      exact ⟨D, rfl, by rw [← sk.len]; simp⟩
    | some x =>
      obtain ⟨go, gy⟩ := go2 x qa
      dsimp only at pk
      cases m with
      | zero => exact pk.elim
      | succ n =>
        dsimp only at pk
        cases qp : evT Sk t x env' with
        | none => rw [qp] at pk; exact pk.elim
        | some env2 =>
          rw [qp] at pk
          refine .inr ⟨go, _, fun H' nx => ⟨n, Nat.lt_succ_self n, nx⟩, fun v H3 yl => ?_⟩
          obtain ⟨ey, rv, sy⟩ := gy v H3 yl
          have ek3 := ek.trans ey
          have hD3 := ey.oth D _ hDk nD
          refine ⟨ρk, Sk, env', env2, x, re1.ext ek3, rv, sy, qp, fun σ2 re2 hl hσ => ⟨(wipe_eq hl hσ ho).trans (wipe_eq (is := own) (wipe_length _ _) (fun i hi => wipe_out hi) fun i hi => hi), ρk, env2, Sk, re2, sy, ?_⟩⟩
          dsimp only at pk
          rw [bind_app] at pk
          cases qk : mk env2 Sk with
          | bad => rw [qk] at pk; exact pk.elim
          | exc y S' => rw [qk] at pk; exact pk.elim
          | ok c S2 =>
            rw [qk] at pk
            dsimp only at pk
            refine fun b ρ4 H4 e4 hb s4 => ?_
            subst hb
            have hD4 := e4.oth D _ hD3 nD
            have nD4 := e4.out hD3 nD
            have ek4 := ek3.trans e4
            cases c with
            | false =>
              rw [if_neg Bool.false_ne_true] at pk ⊢
              exact ⟨ρ4, S2, acc, vs, ek4, s4, nD4, hD4, (rk.ext ey).ext e4, pk⟩
            | true =>
              rw [if_pos rfl] at pk ⊢
              refine ⟨ρ4, env2, S2, re2.ext e4, s4, ?_⟩
              rw [bind_app] at pk
              cases qx : mx env2 S2 with
              | bad => rw [qx] at pk; exact pk.elim
              | exc y S' => rw [qx] at pk; exact pk.elim
              | ok kx S3 =>
                rw [qx] at pk
                dsimp only at pk
                refine fun y ρ5 H5 e5 ry s5 => ?_
                refine ⟨ρ5, env2, S3, (re2.ext e4).ext e5, s5, ?_⟩
                rw [bind_app] at pk
                cases qe : me env2 S3 with
                | bad => rw [qe] at pk; exact pk.elim
                | exc y S' => rw [qe] at pk; exact pk.elim
                | ok u S4 =>
                  rw [qe] at pk
                  dsimp only at pk
                  refine fun z ρ6 H6 e6 rz s6 => ?_
                  have hD6 := e6.oth D _ (e5.oth D _ hD4 nD4) (e5.out hD4 nD4)
                  have nD6 := e6.out (e5.oth D _ hD4 nD4) (e5.out hD4 nD4)
                  have ek6 := (ek4.trans e5).trans e6
                  cases hq : keyOf kx with
                  | none => rw [hq] at pk; exact pk.elim
                  | some q =>
                    rw [hq] at pk
                    dsimp only at pk
                    rw [bind_app, need_app] at pk
                    by_cases hz : acc.length < sizeMax
                    · rw [if_pos (by simpa using hz)] at pk
                      dsimp only at pk
                      have rk6 := (((rk.ext ey).ext e4).ext e5).ext e6
                      have eky := key_kV hq (ry.ext e6)
                      refine ⟨vs, q, eky, hD6, by rw [rk6.length, ← size_eq]; exact hz, ρ6, S4, putV acc q u, putK vs q z, ek6.own hD _, s6.own hD6 bare_dK nD6, nD6, upd_same, (rk6.put rz).own hD6 bare_dK, pk⟩
                    · rw [if_neg (by simpa using hz)] at pk
                      exact pk.elim
theorem de_dcomp (G : Good w T fuel k N ow sc W X) {kx elt tg iter : Expr} {ifs : List Expr} {scope : Scope} {own : List (Str × Nat)} {pos : Pos} {t : IT} {mi : Env → M Src} {mk : Env → M Bool} {mx me : Env → M Val}
    (ok : BlkOk N sc scope own) (hi : DI w W X tg iter mi) (ht : chkT T N scope (relS scope sc) t tg = true) (ho : ∀ i ∈ slotsT t, i ∈ own.map (·.2))
    (hk : ∀ X', Good w T fuel k N scope (relS scope sc) WF X' → (ifs = [] ∧ mk = fun _ => pure true) ∨ ∃ c, ifs = [c] ∧ DT w WF X' c mk) (hx : ∀ X', Good w T fuel k N scope (relS scope sc) WF X' → DE w WF X' kx mx) (he : ∀ X', Good w T fuel k N scope (relS scope sc) WF X' → DE w WF X' elt me)
    (hs : ∀ x, foldedSetIterable iter X.env x = pure x) :
    DE w W X (.DictComp kx elt [⟨tg, iter, ifs, 0⟩] scope pos) (dcompM mi (own.map (·.2)) t mk mx me) := by
  obtain ⟨ti, pi, qi⟩ := hi.ex
  have B := fun s H C cl fp => good_blk G s H scope cl C fp
  exact ⟨_, pe_dc (g := gOf w t) (tt := ttOf w WF mk) (tk := tOf w WF mx) (tv := tOf w WF me) G.calm G.nd pi (by rw [G.hN, G.hsc]; exact ok) (fun s H C cl fp => pg_of (B s H C cl fp) ht)
    (fun s H C cl fp => pts_of (hk _ (B s H C cl fp))) (fun s H C cl fp => (hx _ (B s H C cl fp)).pe) (fun s H C cl fp => (he _ (B s H C cl fp)).pe) hs, fun ρ σ H env S Q re rs p => dc_ok ho qi re rs p⟩
end
end Pd

/-! Pd: dicts of the module. -/
namespace Pd
open PySem PySem.Spec L2

section
variable {w : Wd} {T : Tab} {fuel k : Nat} {N : List Str} {ow sc : Scope} {W : WX} {X : Cx}
abbrev inOp (neg : Bool) : CmpOp := if neg then .NotIn else .In
theorem op_gd (neg : Bool) {d : Addr} {es : Array DictEntry} {n : Nat} (D : KDict X.K X.w d es n) : OpR X (compareOp (inOp neg)) (fun x y H Q => ∃ (z : Str) (r : Option Value), x = .str z ∧ y = .ref d ∧ PySem.W.nsIn X.K d z = some r ∧ Q (.bl (if neg then !r.isSome else r.isSome)) H) := by
  cases neg
  · exact op_in_kd D
  · exact op_notIn_kd D
theorem gd_of (G : Good w T fuel k N ow sc W X) {g : Nat} {x : Str} (h : (T.gds[g]?).map (·.1) = some x) : ∃ kvs, T.gds[g]? = some (x, kvs) ∧ GdAt w X.w X.mg x kvs := by
  cases q : T.gds[g]? with
  | none => rw [q] at h; cases h
  | some p =>
    obtain ⟨x', kvs⟩ := p
    rw [q] at h
    have e : x' = x := Option.some.inj h
    subst e
    exact ⟨kvs, rfl, G.gds g x' kvs q⟩
theorem gin_ok {neg : Bool} {x : Str} {kvs : List (Str × Val)} {d : Addr} {es : Array DictEntry} {n : Nat} {ρ : List Addr} {σ : L2.St} {H : Hp} {S : Store} {u : Val} {y : V} {Q : VK} (D : KDict w.K X.w d es n) (En : EntsAt w kvs es.toList)
    (r : RepV w ρ H u y) (rs : RepS w ρ H S) (p : Post w W σ (RepV w) ρ H (ginV (some (x, kvs)) neg u S) Q) : ∃ (z : Str) (r : Option Value), y = .str z ∧ PySem.W.nsIn w.K d z = some r ∧ Q (.bl (if neg then !r.isSome else r.isSome)) H := by
  unfold ginV at p
  cases u <;> dsimp only at p <;> first | exact p.elim | skip
  rename_i z
  simp only [RepV] at r
  subst r
  cases e : lookV kvs z with
  | none =>
    rw [e] at p
    exact ⟨z, none, rfl, gd_none D.at_ En e, p.ok (by simp [RepV]) rs⟩
  | some v =>
    rw [e] at p
    obtain ⟨u, xv, h1, _⟩ := gd_some D.at_ En e
    exact ⟨z, some u, rfl, h1, p.ok (by simp [RepV]) rs⟩
theorem gin_bool {q : Option (Str × List (Str × Val))} {neg : Bool} {u v' : Val} {S S' : Store} (h : ginV q neg u S = .ok v' S') : ∃ c, v' = .bl c := by
  unfold ginV at h
  split at h
  · injection h with h1 h2
    exact ⟨_, h1.symm⟩
  · cases h
theorem de_gin (G : Good w T fuel k N ow sc W X) {neg : Bool} {g : Nat} {x : Str} {a : Expr} {ma : Env → M Val} {p0 pos : Pos} (hx : (T.gds[g]?).map (·.1) = some x ∧ glB sc x = true ∧ notDbg x = true) (ha : DE w W X a ma) (hm : behindInMarks (inOp neg) (.Name x p0) = false) :
    DE w W X (.Compare a [inOp neg] [.Name x p0] pos) (fun env => do let v ← ma env; ginV T.gds[g]? neg v) := by
  obtain ⟨h1, h2, h3⟩ := hx
  obtain ⟨d1, d2, _⟩ := dbg_of h3
  obtain ⟨kvs, e, d, es, n, m1, D, En⟩ := gd_of G h1
  obtain ⟨ta, pa, qa⟩ := ha.ex
  refine ⟨_, pe_cmpR (op_gd neg (by rw [G.hK]; exact D)) pa (pe_glob (v := .ref d) (gl_of G h2) m1 rfl d1) hm, fun ρ σ H env S Q re rs p => ?_⟩
  refine qa ρ σ H env S _ re rs (p.bind.imp fun y H1 ⟨u, ρ1, S1, e1, r1, s1, p1⟩ => ?_)
  rw [e] at p1
  obtain ⟨z, r, q1, q2, q3⟩ := gin_ok D En r1 s1 p1
  exact ⟨z, r, q1, rfl, by rw [G.hK]; exact q2, q3⟩
theorem dt_gin (G : Good w T fuel k N ow sc W X) {neg : Bool} {g : Nat} {x : Str} {a : Expr} {ma : Env → M Val} {p0 pos : Pos} (hx : (T.gds[g]?).map (·.1) = some x ∧ glB sc x = true ∧ notDbg x = true) (ha : DE w W X a ma) (hm : behindInMarks (inOp neg) (.Name x p0) = false) :
    DT w W X (.Compare a [inOp neg] [.Name x p0] pos) (fun env => (do let v ← ma env; ginV T.gds[g]? neg v) >>= truthM) := by
  obtain ⟨h1, h2, h3⟩ := hx
  obtain ⟨d1, d2, _⟩ := dbg_of h3
  obtain ⟨kvs, e, d, es, n, m1, D, En⟩ := gd_of G h1
  obtain ⟨ta, pa, qa⟩ := ha.ex
  refine ⟨_, pt_cmpR (op_gd neg (by rw [G.hK]; exact D)) pa (pe_glob (v := .ref d) (gl_of G h2) m1 rfl d1) hm, fun ρ σ H env S Q re rs p => ?_⟩
  simp only [M.assoc] at p
  refine qa ρ σ H env S _ re rs (p.bind.imp fun y H1 ⟨u, ρ1, S1, e1, r1, s1, p1⟩ => ?_)
  rw [e] at p1
  obtain ⟨z, r, q1, q2, q3⟩ := gin_ok D En r1 s1 (p1.asked fun _ _ => gin_bool)
  exact ⟨z, r, q1, rfl, by rw [G.hK]; exact q2, q3⟩
theorem de_gix (G : Good w T fuel k N ow sc W X) {g : Nat} {x : Str} {b : Expr} {mb : Env → M Val} {p0 pos : Pos} (hx : (T.gds[g]?).map (·.1) = some x ∧ glB sc x = true ∧ notDbg x = true) (hs : ∀ l u st p, b ≠ .Slice l u st p) (hb : DE w W X b mb) :
    DE w W X (.Subscript (.Name x p0) b pos) (fun env => do let v ← mb env; gixV T.gds[g]? v) := by
  obtain ⟨h1, h2, h3⟩ := hx
  obtain ⟨d1, d2, _⟩ := dbg_of h3
  obtain ⟨kvs, e, d, es, n, m1, D, En⟩ := gd_of G h1
  obtain ⟨tb, pb, qb⟩ := hb.ex
  refine ⟨_, pe_ix ix_kdict (pe_glob (v := .ref d) (gl_of G h2) m1 rfl d1) pb (plain_ix hs), fun ρ σ H env S Q re rs p => ?_⟩
  refine qb ρ σ H env S _ re rs (p.bind.imp fun y H1 ⟨u, ρ1, S1, e1, r1, s1, p1⟩ => ?_)
  rw [e] at p1
  unfold gixV at p1
  cases u <;> dsimp only at p1 <;> first | exact p1.elim | skip
  rename_i z
  simp only [RepV] at r1
  subst r1
  cases q : lookV kvs z with
  | none => rw [q] at p1; exact p1.elim
  | some v =>
    rw [q] at p1
    obtain ⟨u, xv, h4, h5, h6⟩ := gd_some D.at_ En q
    exact ⟨d, z, xv, rfl, rfl, ⟨es, n, u, by rw [G.hK]; exact D.at_, D.lit, by rw [G.hK]; exact h4, h5⟩, p1.ok (h6 ρ1 H1) s1⟩
end
end Pd

/-! Pd: a dict's values, asked by its keys. -/
namespace Pd
open PySem PySem.Spec L2

theorem RepE.length {w : Wd} {ρ : List Addr} {H : Hp} : ∀ {env : Env} {σ : L2.St}, RepE w ρ H env σ → σ.length = env.length
  | [], σ, h => by
    have h : σ = [] := h
    subst h; rfl
  | none :: env, σ, ⟨s, r, h1, h2⟩ => by subst h1; simp [RepE.length h2]
  | some v :: env, σ, ⟨x, r, h1, h2, h3⟩ => by subst h1; simp [RepE.length h3]
def valsV (vs : List (DKey × V)) : List V := vs.map fun e => (valV vs e.1).getD .non
theorem look_in {kvs : List (DKey × Val)} {e : DKey × Val} (h : e ∈ kvs) : ∃ v, lookV kvs e.1 = some v := by
  induction kvs with
  | nil => cases h
  | cons p r ih =>
    obtain ⟨k, v⟩ := p
    unfold lookV
    by_cases c : k = e.1
    · rw [if_pos c]; exact ⟨_, rfl⟩
    · rw [if_neg c]
      rcases List.mem_cons.mp h with h | h
      · subst h; exact absurd rfl c
      · exact ih h
theorem vals_rep {w : Wd} {ρ : List Addr} {H : Hp} {kvs : List (DKey × Val)} {vs : List (DKey × V)} (r : RepKV w ρ H kvs vs) : RepVs w ρ H (valsOf kvs) (valsV vs) := by
  unfold valsOf valsV
  have key : ∀ (l : List (DKey × Val)) (m : List (DKey × V)), (∀ e ∈ l, e ∈ kvs) → RepKV w ρ H l m → RepVs w ρ H (l.map fun e => (lookV kvs e.1).getD .non) (m.map fun e => (valV vs e.1).getD .non) := by
    intro l
    induction l with
    | nil =>
      intro m _ h
      simp only [RepKV] at h
      subst h
      simp [RepVs]
    | cons p l ih =>
      intro m hl h
      obtain ⟨k, x⟩ := p
      simp only [RepKV] at h
      obtain ⟨v, u, rfl, h1, h2⟩ := h
      simp only [List.map_cons, RepVs]
      obtain ⟨y, hy⟩ := look_in (hl (k, x) List.mem_cons_self)
      obtain ⟨z, hz, rz⟩ := valV_rep r hy
      refine ⟨_, _, rfl, ?_, ih u (fun e he => hl e (List.mem_cons_of_mem _ he)) h2⟩
      show RepV w ρ H ((lookV kvs k).getD .non) ((valV vs k).getD .non)
      have hy : lookV kvs k = some y := hy
      rw [hy, hz]
      exact rz
  exact key kvs vs (fun e h => h) r
theorem val_in {vs : List (DKey × V)} {i : Nat} {k : DKey} {v : V} (h : vs[i]? = some (k, v)) : ∃ z, valV vs k = some z := by
  unfold valV
  cases q : vs.find? fun kv => decide (kv.1 = k) with
  | none =>
    have := List.find?_eq_none.mp q _ (List.mem_of_getElem? h)
    simp at this
  | some e => exact ⟨e.2, rfl⟩
section
variable {w : Wd} {T : Tab} {fuel k : Nat} {N : List Str} {ow sc : Scope} {W : WX} {X : Cx}
theorem de_dv (G : Good w T fuel k N ow sc W X) {i j : Nat} {own : List (Str × Nat)} {e : Expr} (h : chkDv N sc i j own e = true) :
    DE w W X e (fun env => do let x ← ofOpt (envGet env i); need (decide (j < env.length)); dvalsM x) := by
  unfold chkDv at h
  split at h
  · rename_i x2 p1 y p2 p3 y2 p4 x p5 asy scope pos
    simp only [Bool.and_eq_true, decide_eq_true_eq] at h
    obtain ⟨⟨⟨⟨⟨⟨⟨⟨⟨⟨⟨⟨⟨h0, hi⟩, vx⟩, dx⟩, hb⟩, ho⟩, hy2⟩, hx2⟩, hij⟩, hj⟩, sy⟩, vy⟩, dy⟩, vx2⟩ := h
    subst h0 ho hy2 hx2
    obtain ⟨d1, d2, _⟩ := dbg_of dx
    obtain ⟨d3, d4, _⟩ := dbg_of dy
    have B := fun s H C cl fp => good_blk G s H scope cl C fp
    refine ⟨_, pe_lock (pe_lc (wi := iKeys (tVar i)) (g := gName j) (tt := tYes) (te := tOp (rIxA X.K) (tVar i) (tVar j)) G.calm G.nd
      (pi_keys (pe_var (by rw [G.hN]; exact hi) (by rw [G.hsc]; exact vis_of vx) d1 d2)) (by rw [G.hN, G.hsc]; exact blkOk_by hb)
      (fun s H C cl fp => pg_name (B s H C cl fp).nd (by rw [(B s H C cl fp).hN]; exact hj) ((B s H C cl fp).hst _ sy).1 ((B s H C cl fp).hst _ sy).2) (fun s H C cl fp => pts_nil)
      (fun s H C cl fp => pe_ix (ix_all (hu_of (B s H C cl fp).room)) (pe_var (by rw [(B s H C cl fp).hN]; exact hi) (by rw [(B s H C cl fp).hsc]; exact vis_of vx2) d1 d2)
        (pe_var (by rw [(B s H C cl fp).hN]; exact hj) (by rw [(B s H C cl fp).hsc]; exact vis_of vy) d3 d4) (plain_ix fun _ _ _ _ z => nomatch z)) (fun _ => rfl)), fun ρ σ H env S Q re rs p => ?_⟩
    cases q : envGet env i with
    | none => rw [q] at p; exact p.elim
    | some v =>
      rw [q] at p
      replace p : Post w W σ (RepV w) ρ H ((need (decide (j < env.length)) >>= fun _ => dvalsM v) S) Q := p
      rw [bind_app, need_app] at p
      by_cases hjl : j < env.length
      · rw [if_pos (by simpa using hjl)] at p
        replace p : Post w W σ (RepV w) ρ H (dvalsM v S) Q := p
        obtain ⟨y0, e1, e2⟩ := re.get q
        unfold dvalsM dicOf at p
        cases v <;> dsimp only at p <;> first | exact p.elim | skip
        rename_i kk
        simp only [RepV] at e2
        obtain ⟨a, rfl, ha⟩ := e2
        cases e3 : S[kk]? with
        | none => rw [e3] at p; exact p.elim
        | some c =>
          rw [e3] at p
          cases c <;> dsimp only at p <;> first | exact p.elim | skip
          rename_i kvs
          by_cases hz : kvs.length ≤ 1000
          · rw [if_pos hz] at p
            obtain ⟨vs, h1, h2⟩ := dct_at rs ha e3
            have hzv : vs.length ≤ 1000 := by rw [h2.length]; exact hz
            have hlen := re.length
            refine ⟨a, .dK vs, h1, trivial, fun od => ?_⟩
            refine ⟨.ref a, e1, a, od, rfl, .inl ⟨vs, upd_same, fun D hD => ?_⟩⟩
            have hDa : D ≠ a := fun z => by rw [z, upd_same] at hD; cases hD
            have hD0 : H D = none := by rw [upd_ne hDa] at hD; exact hD
            refine ⟨fun n m H' => H' = upd (upd H a (.frz od (.dK vs))) D (.lst ((valsV vs).take n)) ∧ m = vs.length - n ∧ n ≤ vs.length, ⟨vs.length, rfl, rfl, Nat.zero_le _⟩, ?_⟩
            rintro n m H' ⟨rfl, rfl, hn⟩
            have hfa : (upd (upd H a (.frz od (.dK vs))) D (.lst ((valsV vs).take n))) a = some (.frz od (.dK vs)) := by rw [upd_ne hDa.symm, upd_same]
            have hfD : (upd (upd H a (.frz od (.dK vs))) D (.lst ((valsV vs).take n))) D = some (.lst ((valsV vs).take n)) := upd_same
            by_cases hlt : n < vs.length
            · refine .inr ⟨⟨hfa, hlt⟩, fun H'' => H'' = upd (upd H a (.frz od (.dK vs))) D (.lst ((valsV vs).take (n + 1))), fun H'' nx => ⟨vs.length - (n + 1), by omega, nx, rfl, by omega⟩, fun x H3 yl => ?_⟩
              obtain ⟨rfl, ky, vv, hk, rfl⟩ := yl
              obtain ⟨z, hzz⟩ := val_in hk
              have hwl : (wipe σ [j]).length = σ.length := wipe_length _ _
              have hjw : j < (wipe σ [j]).length := by rw [hwl, hlen]; exact hjl
              refine ⟨wipe_eq (is := [j]) (σ := σ) (σ' := (wipe σ [j]).set j (some (kV ky))) (by rw [List.length_set, hwl]) (fun q hq => ?_) (fun q hq => hq), ?_⟩
              · have hq : q ≠ j := by simpa using hq
                rw [List.getElem?_set_ne (Ne.symm hq), wipe_out (by simpa using hq)]
              · show tOp (rIxA X.K) (tVar i) (tVar j) ((wipe σ [j]).set j (some (kV ky))) _ _
                refine ⟨.ref a, ?_, kV ky, List.getElem?_set_self hjw, .inr ⟨a, z, rfl, .inl ⟨vs, ky, .inr ⟨od, hfa⟩, rfl, hzz.symm⟩, ?_⟩⟩
                · rw [List.getElem?_set_ne (Ne.symm hij), wipe_out (by simpa using hij)]
                  exact e1
                · refine ⟨_, hfD, by rw [sizeLine_eq, List.length_take]; omega, ?_⟩
                  show upd (upd (upd H a (.frz od (.dK vs))) D (.lst ((valsV vs).take n))) D (.lst ((valsV vs).take n ++ [z])) = _
                  rw [upd_upd, List.take_succ]
                  have : (valsV vs)[n]? = some z := by
                    unfold valsV
                    rw [List.getElem?_map, hk]
                    show some ((valV vs ky).getD .non) = _
                    rw [hzz]; rfl
                  rw [this]; rfl
            · have hn : n = vs.length := by omega
              subst hn
              refine .inl ⟨⟨hfa, Nat.le_refl _⟩, hfa, ?_⟩
              have hval : (valsV vs).take vs.length = valsV vs := List.take_of_length_le (by unfold valsV; rw [List.length_map]; exact Nat.le_refl _)
              rw [hval]
              have eu : upd (upd (upd H a (.frz od (.dK vs))) D (.lst (valsV vs))) a (.dK vs) = upd H D (.lst (valsV vs)) := by
                funext b
                by_cases hb : b = a
                · subst hb
                  rw [upd_same, upd_ne hDa.symm, h1]
                · rw [upd_ne hb]
                  by_cases hbD : b = D
                  · subst hbD; rw [upd_same, upd_same]
                  · rw [upd_ne hbD, upd_ne hb, upd_ne hbD]
              rw [eu]
              exact p.alloc_lst rs (vals_rep h2) D hD0
          · rw [if_neg hz] at p; exact p.elim
      · rw [if_neg (by simpa using hjl)] at p; exact p.elim
  · cases h
end
end Pd

/-! Pd: how many unlike texts a row has: len({y for y in x}). -/
namespace Pd
open PySem PySem.Spec PyProof.Rows L2 PpSet

section
variable {X : Cx}
/-- {elt for target in iter}, texts or ints: D the new set -/
def tSk (P : Program) (w : World) (wi : TI) (g : TG) (te : TE) (vs : List Nat) : TE := fun σ H Q => wi σ H fun J H1 => ∀ D, H1 D = none → ∃ W : Nat → Nat → Hp → Prop, (∃ m, W 0 m (upd H1 D (SetK P w D (fun _ => false) 0))) ∧ ∀ i m H, W i m H →
  (J.stop i H ∧ Q (.ref D) H) ∨ (J.go i H ∧ ∃ Nx : Hp → Prop, (∀ H', Nx H' → ∃ m', m' < m ∧ W (i + 1) m' H') ∧ ∀ x H', J.yld i H x H' → g x (wipe σ vs) H' fun σ2 H2 => wipe σ2 vs = wipe σ vs ∧
    te σ2 H2 fun y H4 => ∃ (k : Key) (S : Key → Bool) (n : Nat), y = kV k ∧ H4 D = some (SetK P w D S n) ∧ n + 1 < scanBound ∧ Nx (upd H4 D (SetK P w D (fun j => S j || decide (j = k)) (if S k = true then n else n + 1))))
theorem addK {pins : List (Addr × Obj)} {σ : L2.St} {H : Hp} {s : Shared} {E : Value → Shared → Prop} {D : Addr} {S : Key → Bool} {n : Nat} {k : Key} {u : Value} {Q : Value → Shared → Prop} (I : Inv X pins σ H s) (hD : H D = some (SetK X.prog X.w D S n)) (room : n + 1 < scanBound) (r : RelV (kV k) u)
    (h : ∀ s', Inv X pins σ (upd H D (SetK X.prog X.w D (fun j => S j || decide (j = k)) (if S k = true then n else n + 1))) s' → Q .none s') : wpAny (model X.prog X.w) X.A (call (.builtin "set.add") [.ref D, u]) Q E s := by
  refine call_set_add (kV_is r) (key_scan r) (setK_get I hD) room fun h' sb new => h _ ?_
  have ⟨o, _, _, _, ho, _⟩ := new
  exact I.write (e := D) (t' := s.toks + 1) (by rw [hD]; trivial) (.inl rfl) (fun b u hb hu => (sb.2 b hb).trans hu) ⟨o, ho⟩ (setK_new new)
theorem setK_empty {P : Program} {w : World} {h : Heap} : (h.push { cls := .type "set", dict := none, data := .set #[] 0 (.fresh 0 0 (!w.params.followText "set-order")) }).SetOf (mixKind P w) h.objs.size (fun _ => false) 0 :=
  ⟨_, #[], 0, _, Heap.get?_push_size _ rfl, ⟨rfl, rfl, rfl⟩, rfl, (fun e he => by simp at he), (fun k => by simp), (by decide), (by rfl), rfl⟩
theorem pe_sk {elt tg iter : Expr} {scope : Scope} {own : List (PySem.Str × Nat)} {pos : Pos} {wi : TI} {g : TG} {te : TE} (hc : X.calm = true) (hN : X.N.Nodup) (hi : PI X tg iter wi) (ok : BlkOk X.N X.env.scope scope own)
    (hg : ∀ (s : Shared) (H : Hp) (C : Addr) (cl : List (PySem.Str × Addr)) (fp : List Addr), PG (X.blk s H scope (compEnvC scope cl C X.env) fp) tg g)
    (he : ∀ (s : Shared) (H : Hp) (C : Addr) (cl : List (PySem.Str × Addr)) (fp : List Addr), PE (X.blk s H scope (compEnvC scope cl C X.env) fp) elt te) (hs : ∀ x, foldedSetIterable iter X.env x = pure x) :
    PE X (.SetComp elt [⟨tg, iter, [], 0⟩] scope pos) (tSk X.prog X.w wi g te (own.map (·.2))) := by
  refine ⟨fun pins s σ H Q I h => ?_⟩
  rw [eval_SetComp]
  have hfree : ∀ y ∈ scope.names, y.2 = .free → ∃ c, X.env.cells.lookup y.1 = some c := fun y hy e => (ok.free y hy e).elim (fun k => I.ok.has _ (.inl k)) fun k => I.ok.has _ (.inr k)
  refine wpAny_comprehension_free (use := none) rfl hs (closure_ok hfree) ok.kind (fun y hy e => by rw [ok.uniq y hy, e]) (thn (hi.run pins s σ H _ I h) fun xv s1 hx => thn hx fun itv s2 h2 => ?_)
  obtain ⟨it, fp, tn, J, H2, e, I2, T, st2, f2, q⟩ := h2
  subst e
  refine newSet_ok (newEnv_comp ?_)
  have hDn : H2 s2.heap.objs.size = none := I2.hok.fresh (Nat.le_refl _)
  obtain ⟨W, ⟨m0, w0⟩, turn⟩ := q s2.heap.objs.size hDn
  generalize hE : SetK X.prog X.w s2.heap.objs.size (fun _ => false) 0 = E0 at w0
  have I3 : Inv X pins σ (upd H2 s2.heap.objs.size E0) { s2 with heap := s2.heap.push { cls := .type "set", dict := none, data := .set #[] 0 (.fresh 0 0 (!X.w.params.followText "set-order")) } } :=
    I2.laid (t' := s2.toks) (fun b o e => Heap.get?_push_of_some _ e) (Nat.le_refl _) (by rw [← hE]; exact setK_new setK_empty)
  generalize hs3 : ({ s2 with heap := s2.heap.push { cls := .type "set", dict := none, data := .set #[] 0 (.fresh 0 0 (!X.w.params.followText "set-order")) } } : Shared) = s3 at I3 ⊢
  have h3 : ∀ b o, s2.heap.get? b = some o → s3.heap.get? b = some o := fun b o e => by rw [← hs3]; exact Heap.get?_push_of_some _ e
  have z3 : s3.heap.objs.size = s2.heap.objs.size + 1 := by rw [← hs3]; exact Heap.size_push ..
  have f3 : ∀ b ∈ fp, FpOk X pins (upd H2 s2.heap.objs.size E0) b ∧ b < s3.heap.objs.size := fun b hb => by
    obtain ⟨o, e, _⟩ := T.obj _ _ st2 b hb
    have hlt := Heap.lt_size e
    exact ⟨⟨by rw [upd_ne (Nat.ne_of_lt hlt)]; exact (f2 b hb).1, (f2 b hb).2⟩, by rw [z3]; exact Nat.lt_succ_of_lt hlt⟩
  have st3 : tn 0 s3.heap := T.keep _ _ _ st2 fun b _ o e => h3 b o e
  generalize hDD : s2.heap.objs.size = D at *
  have I4 := block_start I3 ok hN f3
  have pg := hg s3 (upd H2 D E0) s3.heap.objs.size (cellsFrom (s3.heap.objs.size + 1) scope.names (cloFrom X.env.cells scope.names [])) fp
  have pe := he s3 (upd H2 D E0) s3.heap.objs.size (cellsFrom (s3.heap.objs.size + 1) scope.names (cloFrom X.env.cells scope.names [])) fp
  show codeAny _ _ (.compStart (.SetComp elt [⟨tg, iter, [], 0⟩] scope pos) 0 (.ref it) (.ref D) (compEnvC scope (cellsFrom (s3.heap.objs.size + 1) scope.names (cloFrom X.env.cells scope.names [])) s3.heap.objs.size X.env)) (compPost (model X.prog X.w) X.A X.xe none (EP X pins σ Q) (.ref D) s3.heap.objs.size) { s3 with heap := pushCells (s3.heap.push { cls := .type "dict", data := .dict #[] }) scope.names }
  have nfp : ∀ b ∈ fp, (upd H2 D E0) b = none := fun b hb => (f3 b hb).1.1
  generalize hce : compEnvC scope (cellsFrom (s3.heap.objs.size + 1) scope.names (cloFrom X.env.cells scope.names [])) s3.heap.objs.size X.env = ce at I4 pg pe ⊢
  have cL : ce.locals = s3.heap.objs.size := by subst hce; rfl
  generalize hH3 : upd H2 D E0 = H3 at I3 I4 pg pe w0 nfp f3
  generalize hs4 : ({ s3 with heap := pushCells (s3.heap.push { cls := .type "dict", data := .dict #[] }) scope.names } : Shared) = s4 at I4 ⊢
  have st4 : tn 0 s4.heap := T.keep _ _ _ st3 fun b _ o e => by rw [← hs4]; exact pushCells_keeps _ _ _ _ (Heap.get?_push_of_some _ e)
  have fpk : ∀ {σ' : L2.St} {H' : Hp} {s' : Shared}, Inv (X.blk s3 H3 scope ce fp) [] σ' H' s' → (∀ b ∈ fp, H' b = none) → ∀ b ∈ fp, FpOk (X.blk s3 H3 scope ce fp) [] H' b := fun I' hn b hb =>
    ⟨hn b hb, (I'.ok.exf b hb).1, I'.ok.exfs b hb, .inl hb, fun x c e => (I'.ok.exf b hb).2 x c e, fun p hp => absurd (show p ∈ ([] : List (Addr × Obj)) ++ [] from hp) (by simp)⟩
  have loop : codeAny (model X.prog X.w) X.A (.compLoop (.SetComp elt [⟨tg, iter, [], 0⟩] scope pos) 0 (.ref it) (.ref D) ce) (compPost (model X.prog X.w) X.A X.xe none (EP X pins σ Q) (.ref D) s3.heap.objs.size) s4 := by
    refine compLoopS_any (fun n s' => ∃ i H', Inv (X.blk s3 H3 scope ce fp) [] (wipe σ (own.map (·.2))) H' s' ∧ tn i s'.heap ∧ (∀ b ∈ fp, H' b = none) ∧ W i n H') ?_ m0 ⟨0, H3, I4, st4, nfp, w0⟩
    rintro n s5 ⟨i, H5, I5, st5, n5, w5⟩
    rcases turn i n H5 w5 with ⟨stop, qq⟩ | ⟨go, Nx, hNx, step⟩
    · refine thnF (T.done (X.blk s3 H3 scope ce fp) rfl rfl rfl hc i [] s5 _ H5 (fun _ _ => False) I5 (fpk I5 n5) st5 stop) fun r s6 ⟨hr, I6⟩ => ?_
      subst hr
      have I7 : Inv X pins σ H5 s6 := I3.call' (ch := fp) I6.os I6.base I6.hok I6.bare fun b hb => ⟨(f3 b hb).1.2.2.2.1, (f3 b hb).1.2.1, (f3 b hb).1.2.2.2.2.1, (f3 b hb).1.2.2.2.2.2⟩
      have nC : H5 s3.heap.objs.size = none := by rw [← cL]; exact I6.free
      obtain ⟨m, hn, _⟩ := I6.loc
      replace hn : s6.heap.Ns ce.locals m := hn
      rw [cL] at hn
      obtain ⟨f0, f1, _, f4, f5, f6⟩ := I3.fpOk (Nat.le_refl _) nC
      exact ⟨m, hn, fun h'' sb => ⟨.ref D, H5, I7.turned (t' := s6.toks) (fun b o hb e => (sb.2 b hb).trans e) f0 f1 f4 f5 f6, rfl, qq⟩⟩
    · refine thnF (T.item (X.blk s3 H3 scope ce fp) rfl rfl rfl hc i [] s5 _ H5 (fun _ _ => False) I5 (fpk I5 n5) st5 go) fun r s6 ⟨u, hr, h6⟩ => ?_
      subst hr
      refine thnF h6 fun _ s7 ⟨x, H7, I7, r7, y7, st7, n7⟩ => ?_
      refine thnF (pg.run _ s7 _ H7 x u _ (I7.pinned (fpk I7 n7) (T.obj _ _ st7)) r7 (step x H7 y7)) fun _ s8 ⟨σ8, H8, I8, hw8, q8⟩ => ?_
      refine wpAny_tests_nil ?_
      simp only [if_true]
      refine thnF (pe.run _ s8 σ8 H8 _ I8 q8) fun z s9 ⟨yv, H9, I9, r9, k, S0, n0, ey, hD9, hz9, nx⟩ => ?_
      subst ey
      refine addK (X := X.blk s3 H3 scope ce fp) I9 hD9 hz9 r9 fun s' I' => ?_
      obtain ⟨m', hm, w'⟩ := hNx _ nx
      have pin' : ∀ b ∈ fp, ∀ o, s7.heap.get? b = some o → s'.heap.get? b = some o ∧ (upd H9 D (SetK X.prog X.w D (fun j => S0 j || decide (j = k)) (if S0 k = true then n0 else n0 + 1))) b = none := fun b hb o e =>
        let z := I'.pin (b, o) (List.mem_append_right _ (List.mem_append_right _ (mem_pinsAt hb e)))
        ⟨z.1, z.2.1⟩
      have hl : (wipe σ (own.map (·.2))).length = σ8.length := by rw [← hw8, wipe_length]
      refine ⟨m', hm, i + 1, _, (I'.unpinned (pins := [])).weak hl (fun j v e => ?_), T.keep _ _ _ st7 fun b hb o e => (pin' b hb o e).1, fun b hb => ?_, w'⟩
      · rw [← hw8] at e
        exact (wipe_some e).1
      · obtain ⟨o, e, _⟩ := T.obj _ _ st7 b hb
        exact (pin' b hb o e).2
  exact codeAny_compStart_set loop (T.self X.A 0 _ _ _ st4 loop)
end
end Pd

namespace Pd
open PySem PySem.Spec PyProof.Rows L2
theorem call_lenK {X : Cx} : CallR X (.builtin "len") (fun xs H Q => ∃ (a : Addr) (S : Key → Bool) (n : Nat), xs = [.ref a] ∧ H a = some (SetK X.prog X.w a S n) ∧ Q (.int n) H) := by
  intro pins s σ H xs us Q I r h
  obtain ⟨a, S, n, rfl, ha, q⟩ := h
  obtain ⟨u, rfl, rx⟩ := vals1 r
  cases rx
  obtain ⟨o, es, ep, t, ho, hex, hd, _, _, hb, hf, hn⟩ := setK_get I ha
  have hb : es.size < 4096 := hb
  exact call_len_set ho hex hd hf (by omega) ⟨.int n, H, I.tok _, ⟨_, by rw [hn]⟩, q⟩
theorem fresh_snoc {y : Str} : ∀ {l seen : List Str}, fresh seen (l ++ [y]) = fresh seen l + (if y ∈ l ∨ y ∈ seen then 0 else 1)
  | [], seen => by
    show (if y ∈ seen then 0 else 1) + 0 = 0 + _
    simp
  | x :: l, seen => by
    show (if x ∈ seen then 0 else 1) + fresh (x :: seen) (l ++ [y]) = (if x ∈ seen then 0 else 1) + fresh (x :: seen) l + _
    rw [fresh_snoc (l := l) (seen := x :: seen), Nat.add_assoc]
    congr 2
    simp only [List.mem_cons, eq_iff_iff]
    have : (y ∈ l ∨ y = x ∨ y ∈ seen) ↔ ((y = x ∨ y ∈ l) ∨ y ∈ seen) := by
      constructor
      · rintro (h | h | h)
        · exact .inl (.inr h)
        · exact .inl (.inl h)
        · exact .inr h
      · rintro ((h | h) | h)
        · exact .inr (.inl h)
        · exact .inl h
        · exact .inr (.inr h)
    by_cases c : y ∈ l ∨ y = x ∨ y ∈ seen
    · rw [if_pos c, if_pos (this.mp c)]
    · rw [if_neg c, if_neg (fun z => c (this.mpr z))]
theorem fresh_le : ∀ {l seen : List Str}, fresh seen l ≤ l.length
  | [], _ => Nat.le_refl _
  | x :: l, seen => by
    have := fresh_le (l := l) (seen := x :: seen)
    show (if x ∈ seen then 0 else 1) + fresh (x :: seen) l ≤ l.length + 1
    split <;> omega
def inS (l : List Str) : Key → Bool := fun k => l.any fun x => decide (k = Sum.inr x)
theorem inS_str {l : List Str} {y : Str} : inS l (.inr y) = decide (y ∈ l) := by
  unfold inS
  rw [Bool.eq_iff_iff, List.any_eq_true, decide_eq_true_eq]
  constructor
  · rintro ⟨x, hx, h⟩
    have h := of_decide_eq_true h
    cases h
    exact hx
  · intro h
    exact ⟨y, h, decide_eq_true rfl⟩
theorem inS_snoc {l : List Str} {y : Str} : inS (l ++ [y]) = fun j => inS l j || decide (j = Sum.inr y) := by
  funext j
  unfold inS
  rw [List.any_append]
  simp
theorem strs_rep {w : Wd} {ρ : List Addr} {H : Hp} : ∀ {l : List Val} {ys : List Str} {vs : List V}, strsOf l = some ys → RepVs w ρ H l vs → vs = ys.map V.str
  | [], ys, vs, h, r => by
    cases h
    simp only [RepVs] at r
    subst r; rfl
  | x :: l, ys, vs, h, r => by
    cases x <;> first | (cases h; done) | skip
    rename_i z
    have h : (strsOf l).map (z :: ·) = some ys := h
    cases q : strsOf l with
    | none => rw [q] at h; cases h
    | some zs =>
      rw [q] at h
      cases h
      simp only [RepVs, RepV] at r
      obtain ⟨v, u, rfl, rfl, r⟩ := r
      rw [strs_rep q r]; rfl
section
variable {w : Wd} {T : Tab} {fuel k : Nat} {N : List Str} {ow sc : Scope} {W : WX} {X : Cx}
theorem de_ls (G : Good w T fuel k N ow sc W X) {i j : Nat} {own : List (Str × Nat)} {e : Expr} (h : chkLs T N sc i j own e = true) :
    DE w W X e (fun env => do let x ← ofOpt (envGet env i); need (decide (j < env.length)); lsetM x) := by
  unfold chkLs at h
  split at h
  · rename_i l p0 y p1 y2 p2 x p3 asy scope pos pos2
    simp only [Bool.and_eq_true, decide_eq_true_eq] at h
    obtain ⟨⟨⟨⟨⟨⟨⟨⟨⟨⟨⟨⟨⟨⟨h0, hl⟩, gl⟩, dl⟩, bl⟩, hi⟩, vx⟩, dx⟩, hb⟩, ho⟩, hy2⟩, hj⟩, sy⟩, vy⟩, dy⟩ := h
    subst h0 ho hy2 hl
    obtain ⟨d1, d2, _⟩ := dbg_of dx
    obtain ⟨d3, d4, _⟩ := dbg_of dy
    have B := fun s H C cl fp => good_blk G s H scope cl C fp
    have ps := pe_sk (elt := .Name y2 p1) (tg := .Name y2 p2) (iter := .Name x p3) (scope := scope) (own := [(y2, j)]) (pos := pos) (wi := iVal X.K (tVar i)) (g := gName j) (te := tVar j) G.calm G.nd
      (pi_val (pe_var (by rw [G.hN]; exact hi) (by rw [G.hsc]; exact vis_of vx) d1 d2)) (by rw [G.hN, G.hsc]; exact blkOk_by hb)
      (fun s H C cl fp => pg_name (B s H C cl fp).nd (by rw [(B s H C cl fp).hN]; exact hj) ((B s H C cl fp).hst _ sy).1 ((B s H C cl fp).hst _ sy).2)
      (fun s H C cl fp => pe_var (by rw [(B s H C cl fp).hN]; exact hj) (by rw [(B s H C cl fp).hsc]; exact vis_of vy) d3 d4) (fun _ => rfl)
    refine ⟨_, pe_callB call_lenK (gl_of G gl) (G.blts _ (List.contains_iff_mem.mp bl)) (by decide +kernel) (pa_cons ps pa_nil (by rfl)) (by decide +kernel) (by decide +kernel) (by rfl) (by rfl), fun ρ σ H env S Q re rs p => ?_⟩
    cases q : envGet env i with
    | none => rw [q] at p; exact p.elim
    | some v =>
      rw [q] at p
      replace p : Post w W σ (RepV w) ρ H ((need (decide (j < env.length)) >>= fun _ => lsetM v) S) Q := p
      rw [bind_app, need_app] at p
      by_cases hjl : j < env.length
      · rw [if_pos (by simpa using hjl)] at p
        replace p : Post w W σ (RepV w) ρ H (lsetM v S) Q := p
        obtain ⟨y0, e1, e2⟩ := re.get q
        unfold lsetM lsetV at p
        cases v <;> dsimp only at p <;> first | exact p.elim | skip
        rename_i l
        cases q1 : strsOf l with
        | none => rw [q1] at p; exact p.elim
        | some ys =>
          rw [q1] at p
          dsimp only at p
          by_cases hz : ys.length ≤ 1000
          · rw [if_pos hz] at p
            replace p : Post w W σ (RepV w) ρ H (.ok (.int (fresh [] ys : Nat)) S) Q := p
            simp only [RepV] at e2
            obtain ⟨a, vs, rfl, h1, h2⟩ := e2
            have hv := strs_rep q1 h2
            subst hv
            have hlen := re.length
            have hq : ∀ (D : Addr) (o : HO), H D = none → SqT X.K (upd H D o) a (ys.map V.str) := fun D o hD => by
              rw [G.hK]
              exact (h1.ext (Ext.new rs hD)).sq
            have hlv : (ys.map V.str).length = ys.length := List.length_map _
            refine ⟨.ref a, e1, .inr (.inl ⟨a, rfl, ⟨_, by rw [G.hK]; exact h1.sq⟩, fun D hD => ?_⟩)⟩
            refine ⟨fun n m H' => H' = upd H D (SetK X.prog X.w D (inS (ys.take n)) (fresh [] (ys.take n))) ∧ m = ys.length - n ∧ n ≤ ys.length, ⟨ys.length, rfl, rfl, Nat.zero_le _⟩, ?_⟩
            rintro n m H' ⟨rfl, rfl, hn⟩
            have hs := hq D (SetK X.prog X.w D (inS (ys.take n)) (fresh [] (ys.take n))) hD
            by_cases hlt : n < ys.length
            · have hy : (ys.map V.str)[n]? = some (.str ys[n]) := by rw [List.getElem?_map, List.getElem?_eq_getElem hlt]; rfl
              refine .inr ⟨⟨_, _, hs, hy⟩, fun H'' => H'' = upd H D (SetK X.prog X.w D (inS (ys.take (n + 1))) (fresh [] (ys.take (n + 1)))), fun H'' nx => ⟨ys.length - (n + 1), by omega, nx, rfl, by omega⟩, fun x H3 yl => ?_⟩
              obtain ⟨rfl, yl⟩ := yl
              have ex := yl _ hs
              rw [hy] at ex
              cases ex
              have hwl : (wipe σ [j]).length = σ.length := wipe_length _ _
              have hjw : j < (wipe σ [j]).length := by rw [hwl, hlen]; exact hjl
              refine ⟨wipe_eq (is := [j]) (σ := σ) (σ' := (wipe σ [j]).set j (some (.str ys[n]))) (by rw [List.length_set, hwl]) (fun q hq => ?_) (fun q hq => hq), ?_⟩
              · have hq : q ≠ j := by simpa using hq
                rw [List.getElem?_set_ne (Ne.symm hq), wipe_out (by simpa using hq)]
              · show tVar j ((wipe σ [j]).set j (some (.str ys[n]))) _ _
                have hle := fresh_le (l := ys.take n) (seen := [])
                rw [List.length_take] at hle
                have hbd : fresh [] (ys.take n) + 1 < scanBound := by show _ < 4096; omega
                refine ⟨.str ys[n], List.getElem?_set_self hjw, .inr ys[n], inS (ys.take n), fresh [] (ys.take n), rfl, upd_same, hbd, ?_⟩
                show upd (upd H D _) D _ = _
                rw [upd_upd, List.take_succ, List.getElem?_eq_getElem hlt]
                show _ = upd H D (SetK X.prog X.w D (inS (ys.take n ++ [ys[n]])) (fresh [] (ys.take n ++ [ys[n]])))
                rw [inS_snoc, fresh_snoc, inS_str]
                congr 2
                by_cases c : ys[n] ∈ ys.take n
                · rw [if_pos (by simpa using c), if_pos (.inl c), Nat.add_zero]
                · rw [if_neg (by simpa using c), if_neg (by rintro (z | z); exact c z; cases z)]
            · have hn : n = ys.length := by omega
              subst hn
              refine .inl ⟨⟨_, hs, by rw [hlv]; exact Nat.le_refl _⟩, ?_⟩
              rw [List.take_length]
              refine ⟨D, _, _, rfl, upd_same, ?_⟩
              exact p _ ρ _ (Ext.new rs hD) (by simp [RepV]) (rs.new hD)
          · rw [if_neg hz] at p; exact p.elim
      · rw [if_neg (by simpa using hjl)] at p; exact p.elim
  · cases h
end
end Pd

/-! Pd: set(xs) of a list of texts; len of it. -/
namespace Pd
open PySem PySem.Spec PyProof.Rows L2 PpSet
theorem fresh_take {xs : List Str} {i : Nat} {x : Str} (h : xs[i]? = some x) : Pd.fresh [] (xs.take (i + 1)) = if x ∈ xs.take i then Pd.fresh [] (xs.take i) else Pd.fresh [] (xs.take i) + 1 := by
  rw [List.take_succ, h]
  show Pd.fresh [] (xs.take i ++ [x]) = _
  rw [fresh_snoc]
  by_cases c : x ∈ xs.take i
  · rw [if_pos c, if_pos (.inl c)]; rfl
  · rw [if_neg c, if_neg (by rintro (z | z); exact c z; cases z)]
section
variable {prog : Program} {w : World} {A : Around} {R : Result → Shared → Prop} {I : Addr} {fp wr : List Addr} {G : Array GenState → Array GenState → Prop} {n : Nat} {P : Nat → Value → Prop} {St : Nat → Shared → Prop}
/-- the turns of a set that takes its texts in -/
theorem take_texts (W : WalksS prog w A.in1 I fp wr G n P St) (D : Addr) (hD : D ∉ fp) (xs : List Str) (hx : xs.length = n) (hz : n + 1 < scanBound) (hv : ∀ i v, P i v → ∃ t, v = .str (xs.getD i Str.empty) t) :
    ∀ (left i : Nat) (s : Shared), left + i = n → St i s → s.heap.SetOf (PySem.strKind prog w) D (fun y => decide (y ∈ xs.take i)) (Pd.fresh [] (xs.take i)) →
      (∀ s', Moved (D :: wr) G s s' → s'.heap.SetOf (PySem.strKind prog w) D (fun y => decide (y ∈ xs)) (Pd.fresh [] xs) → R (.ok (.ret .none)) s') →
      codeAny (model prog w) A (.builtin "set.update.loop" ⟨[.ref D, .ref I], []⟩) R s
  | 0, i, s, hi, st, hS, hR => by
    have e : i = n := by omega
    subst e
    rw [← hx, List.take_length] at hS
    refine codeAny_builtin PyProof.Rows.F.entry_set_update_loop ?_
    rw [Around.under_plainId PyProof.Rows.F.plain_set_update_loop _]
    show wpAny _ A.in1 (pyNext (.ref I) >>= _) _ _ s
    refine wpAny_bind (W.done s _ _ st fun s2 m => ?_)
    refine (show wpAny _ A.in1 (ret Value.none) _ _ s2 from wpAny_pure (hR s2 (m.mono fun b hb => List.mem_cons_of_mem _ hb) ?_))
    obtain ⟨o, es, ep, t, ho, rest⟩ := hS
    exact ⟨o, es, ep, t, m.heap D _ (fun z => hD (W.sub _ z)) ho, rest⟩
  | left + 1, i, s, hi, st, hS, hR => by
    have lt : i < n := by omega
    obtain ⟨x, hxi⟩ : ∃ x, xs[i]? = some x := ⟨_, List.getElem?_eq_getElem (by omega)⟩
    have gx : xs.getD i Str.empty = x := by rw [List.getD_eq_getElem?_getD, hxi]; rfl
    refine codeAny_builtin PyProof.Rows.F.entry_set_update_loop ?_
    rw [Around.under_plainId PyProof.Rows.F.plain_set_update_loop _]
    show wpAny _ A.in1 (pyNext (.ref I) >>= _) _ _ s
    refine wpAny_bind (W.item i s _ _ lt st fun v s2 hp st2 m => ?_)
    obtain ⟨t, rfl⟩ := hv i v hp
    rw [gx]
    have hS2 : s2.heap.SetOf (PySem.strKind prog w) D (fun y => decide (y ∈ xs.take i)) (Pd.fresh [] (xs.take i)) := by
      obtain ⟨o, es, ep, tb, ho, rest⟩ := hS
      exact ⟨o, es, ep, tb, m.heap D _ (fun z => hD (W.sub _ z)) ho, rest⟩
    have room : Pd.fresh [] (xs.take i) + 1 < scanBound := by
      have h1 : Pd.fresh [] (xs.take i) ≤ (xs.take i).length := fresh_le
      rw [List.length_take] at h1
      omega
    show wpAny _ A.in1 (holding [Value.str x t] (setAdd D (.str x t)) >>= _) _ _ s2
    unfold setAdd
    refine wpAny_bind (wpAny_holding (wpAny_holding (wpAny_bind ((PySem.strKind prog w).pyHash (k := x) (strKind_is _ _ _ _) ?_))))
    refine wpAny_setAddHashed_of (knd := PySem.strKind prog w) (s := { s2 with toks := s2.toks + 1 }) (strKind_is _ _ _ _) rfl hS2 room fun g sb new => ?_
    have new2 : g.SetOf (PySem.strKind prog w) D (fun y => decide (y ∈ xs.take (i + 1))) (Pd.fresh [] (xs.take (i + 1))) := by
      refine PyProof.Rows.SetOf_congr new (fun y => ?_) ?_
      · rw [List.take_succ, hxi]
        show (decide (y ∈ xs.take i) || decide (y = x)) = decide (y ∈ xs.take i ++ [x])
        simp [List.mem_append]
      · rw [fresh_take hxi]
        by_cases c : x ∈ xs.take i
        · rw [if_pos c, decide_eq_true c, if_pos rfl]
        · rw [if_neg c, decide_eq_false c, if_neg (by simp)]
    have far : ∀ b ∈ fp, ∀ o, s2.heap.get? b = some o → g.get? b = some o := fun b hb o e => (sb.2 b (fun z => hD (z ▸ hb))).trans e
    refine wpAny_pure ⟨plainId_quiet PyProof.Rows.F.plain_set_update_loop _, take_texts W D hD xs hx hz hv left (i + 1) _ (by omega) (W.frame _ s2 _ _ st2 (Nat.le_succ _) far) new2 fun s3 m3 hS3 => hR s3 (Moved.trans W.gtrans ?_ m3) hS3⟩
    exact (m.mono fun b hb => List.mem_cons_of_mem _ hb).then_heap (Nat.le_succ _) fun b o hb e => (sb.2 b (fun z => hb (z ▸ List.mem_cons_self))).trans e
end
section
variable {prog : Program} {w : World} {A : Around} {E : Value → Shared → Prop} {s : Shared}
/-- a new set at its place -/
abbrev newSet (led : Bool) : Obj := { cls := .type "set", dict := none, data := .set #[] 0 (.fresh 0 0 led) }
set_option maxHeartbeats 3200000 in
theorem set_of_texts {l : Addr} {its : Array Value} {xs : List Str} {Q : Value → Shared → Prop} (hc : A.handled = none) (hl : s.heap.IsList l its) (hi : PyProof.Rows.StrsAre its.toList xs) (hz : xs.length + 1 < scanBound)
    (q : ∀ (g : Heap) (tk : Nat), g.SetOf (PySem.strKind prog w) s.heap.objs.size (fun y => decide (y ∈ xs)) (Pd.fresh [] xs) → (∀ b o, s.heap.get? b = some o → g.get? b = some o) → Q (.ref s.heap.objs.size) { s with heap := g, toks := tk }) :
    wpAny (model prog w) A (call (.type "set") [.ref l]) Q E s := by
  have ln : xs.length = its.size := by rw [← StrsAre.len_eq hi, Array.length_toList]
  have val : ∀ (i : Nat) (v : Value), its[i]? = some v → ∃ t, v = .str (xs.getD i Str.empty) t := fun i v e => SS.strs_at hi i v (by rw [Array.getElem?_toList]; exact e)
  obtain ⟨c, tl, k1⟩ := PySem.F.called_set.mro
  have k2 := PySem.F.called_set.made
  have k3 := PySem.F.called_set.sub
  have k4 := PySem.F.called_set.notType
  have k5 := PySem.F.called_set.canCreate
  have k6 := PySem.F.typeCall_set_1 (.ref l)
  apply wpAny_call
  apply codeAny_of_tree
  show wpAny _ _ (callAny (.type "set") _) _ _ _
  apply wpAny_pure
  refine ⟨Code.quiet_builtin _ (by decide +kernel), ?_⟩
  apply codeAny_builtin PySem.F.entry_type_call
  rw [Around.under_plain (weight_type_call_type "set" [.ref l] []) rfl]
  repeat (any_goals (first | assumption | wp_step))
  refine codeAny_mono (code_set_new_1 (.ref l) (E := E) (Q₁ := fun ob z => ∃ led, ob = .ref s.heap.objs.size ∧ z = { s with heap := s.heap.push (newSet led) }) fun led => ⟨led, rfl, rfl⟩) fun r z hr => ?_
  match r, hr with
  | .error _, hr => exact hr
  | .ok .next, hr => exact hr.elim
  | .ok .brk, hr => exact hr.elim
  | .ok .cont, hr => exact hr.elim
  | .ok (.ret ob), ⟨led, e1, e2⟩ =>
    subst e1
    subst e2
    have at0 : (s.heap.push (newSet led)).get? s.heap.objs.size = some (newSet led) := Heap.get?_push_size _ rfl
    have ty0 : Shared.TypeIs { s with heap := s.heap.push (newSet led) } (.ref s.heap.objs.size) "set" := ⟨_, at0, rfl⟩
    have k7 := PySem.F.called_set.init.lookup
    have k8 := PySem.F.called_set.init.bind (.ref s.heap.objs.size)
    repeat (any_goals (first | assumption | wp_step))
    refine codeAny_mono (codeAny_call_builtin (R := wants (fun r z => r = .none ∧ ∃ g tk, z = { s with heap := g, toks := tk } ∧ g.SetOf (PySem.strKind prog w) s.heap.objs.size (fun y => decide (y ∈ xs)) (Pd.fresh [] xs) ∧ ∀ b o, s.heap.get? b = some o → g.get? b = some o) E)
      PySem.F.called_set.init.plain PySem.F.entry_set_init (check_set_init_1 ty0 ?_)) fun r2 z2 hr2 => ?_
    · obtain ⟨⟨o1, o2, o3, o4⟩, lo, lc, ln2, ld⟩ := hl
      simp only at lc ld
      subst lc
      subst ld
      have m1 := PySem.F.sub_list_set
      have m2 := PySem.F.sub_list_frozenset
      have m3 : (Value.type "list" == Value.type "dict") = false := by decide
      have lt := Heap.lt_size lo
      have lo2 := Heap.get?_push_of_some (newSet led) lo
      have isl : (s.heap.push (newSet led)).IsList l its := ⟨_, lo2, rfl, _, rfl⟩
      unfold Builtin.«set.__init__» noKeywords Builtin.Frozenset.updateFrom
      generalize hp : pyIter = pit
      wp_walk
      subst hp
      refine wpAny_pyIter_list isl (wpAny_bind (wpAny_runValue ?_))
      have sz : (s.heap.push (newSet led)).objs.size = s.heap.objs.size + 1 := Heap.size_push ..
      have far : s.heap.objs.size ∉ [(s.heap.push (newSet led)).objs.size, l] := by
        rw [sz]
        simp only [List.mem_cons, List.not_mem_nil, or_false, not_or]
        exact ⟨by omega, Nat.ne_of_gt lt⟩
      refine take_texts ((Walks.list (by simp [hc]) _ l (by rw [sz]; exact Nat.ne_of_lt (Nat.lt_succ_of_lt lt)) its).toS) s.heap.objs.size far xs ln (by rw [← ln]; exact hz) val its.size 0 _ (by omega) ⟨⟨_, Heap.get?_push_size _ rfl, rfl, rfl⟩, isl.push _⟩ ?_ fun z m hS => ?_
      · refine PyProof.Rows.SetOf_congr ((PyProof.Rows.setObjOf_fresh (knd := PySem.strKind prog w) led).setOf (Heap.get?_push_of_some _ at0) (by unfold scanBound; omega)) (fun y => ?_) rfl
        simp
      · obtain ⟨g, g1, g2, tk, g3⟩ := z
        cases (show g1 = s.gens from m.gens)
        cases (show g2 = s.drawn from m.drawn)
        cases (show g3 = s.os from m.os)
        show wpAny _ _ _ _ _ _
        refine wpAny_pure ?_
        show wpAny _ _ (ret Value.none) _ _ _
        refine wpAny_pure ⟨rfl, g, tk, rfl, hS, fun b o e => ?_⟩
        have lb := Heap.lt_size e
        refine m.heap b o ?_ (Heap.get?_push_of_some _ (Heap.get?_push_of_some _ e))
        rw [sz]
        simp only [List.mem_cons, List.not_mem_nil, or_false, not_or]
        exact ⟨Nat.ne_of_lt lb, Nat.ne_of_lt (Nat.lt_succ_of_lt lb)⟩
    · match r2, hr2 with
      | .error _, hr2 => exact hr2
      | .ok .next, hr2 => exact hr2.elim
      | .ok .brk, hr2 => exact hr2.elim
      | .ok .cont, hr2 => exact hr2.elim
      | .ok (.ret _), ⟨e3, g, tk, e4, hS, hk⟩ =>
        subst e3
        subst e4
        repeat (any_goals (first | assumption | wp_step))
        exact q g tk hS hk
end
theorem strsAre_of : ∀ {ys : List Str} {us : List Value}, Vals (ys.map V.str) us → PyProof.Rows.StrsAre us ys
  | [], _, .nil => .nil
  | y :: ys, _, .cons r t => by
    obtain ⟨k, rfl⟩ := r
    exact .cons y k (strsAre_of t)
def tLenSet (K : PySem.W.Frag) (ta : TE) : TE := fun σ H Q => ta σ H fun x H1 => ∃ (l : Addr) (ys : List Str), x = .ref l ∧ SqL K H1 l (ys.map V.str) ∧ ys.length ≤ 1000 ∧ Q (.int (Pd.fresh [] ys : Nat)) H1
theorem pe_lenSet {X : Cx} {e : Expr} {ta : TE} {p1 p2 c1 c2 : Pos} (hg : Gl X "len") (hm : X.mg "len" = none) (hg2 : Gl X "set") (hm2 : X.mg "set" = none) (he : PE X e ta) (hc : X.calm = true) (hs : starEach [e] X.env = (false, eval e X.env) :: starEach [] X.env) :
    PE X (.Call (.Name "len" p1) [.Call (.Name "set" p2) [e] [] c2] [] c1) (tLenSet X.K ta) := by
  refine ⟨fun pins s σ H Q I h => Call_ (ld_blt I hg hm boot_len (PyProof.Rows.callWith_builtin1 (PyProof.Rows.args_cons (Call_ (ld_blt I hg2 hm2 boot_set (PyProof.Rows.callWith_type1 (PyProof.Rows.args_cons (thn (he.run pins s σ H _ I h) fun v s1 z => PyProof.Rows.args_nil ?_) hs) hs rfl))) rfl) rfl rfl))⟩
  obtain ⟨x, H1, I1, r1, l, ys, e1, hq, hl, q1⟩ := z
  subst e1
  cases r1
  obtain ⟨us, rv, pl, _⟩ := I1.list hq
  refine set_of_texts (I1.ok.hd hc) pl.isList (by simpa using strsAre_of rv) (by unfold scanBound; omega) fun g tk hS hk => PyProof.Rows.args_nil ?_
  obtain ⟨o, es, ep, t, ho, hx, hd, _, _, _, hf, hn⟩ := hS
  have I2 : Inv X pins σ H1 { s1 with heap := g, toks := tk } := I1.kept hk
  have hle : Pd.fresh [] ys ≤ ys.length := fresh_le
  exact call_len_set ho hx hd hf (by rw [hn]; omega) ⟨.int (Pd.fresh [] ys : Nat), H1, I2.tok _, ⟨_, by rw [hn]⟩, q1⟩
theorem de_lset2 {w : Wd} {T : Tab} {fuel k : Nat} {N : List Str} {ow sc : Scope} {W : WX} {X : Cx} (G : Good w T fuel k N ow sc W X) {e : Expr} {m : Env → M Val} {p1 p2 c1 c2 : Pos} (hg : glB sc "len" = true) (hm : ("len" : Str) ∈ T.blts) (hg2 : glB sc "set" = true) (hm2 : ("set" : Str) ∈ T.blts)
    (hs : ∀ x p, e ≠ .Starred x p) (h : DE w W X e m) : DE w W X (.Call (.Name "len" p1) [.Call (.Name "set" p2) [e] [] c2] [] c1) (fun env => do let x ← m env; lset2M x) := by
  obtain ⟨t, pt, q⟩ := h.ex
  refine ⟨_, pe_lenSet (gl_of G hg) (G.blts _ hm) (gl_of G hg2) (G.blts _ hm2) pt G.calm (star_cons hs), fun ρ σ H env S Q re rs p => ?_⟩
  refine q ρ σ H env S _ re rs (p.bind.imp fun x H1 ⟨u, ρ1, S1, e1, r1, s1, p1⟩ => ?_)
  unfold lset2M at p1
  split at p1
  · rename_i l hl
    obtain ⟨a, vs, rfl, h1, h2⟩ := lst_read s1 r1 hl
    split at p1
    · rename_i ys hy
      split at p1
      · rename_i hz
        have ev := strs_rep hy h2
        subst ev
        exact ⟨a, ys, rfl, by rw [G.hK]; exact h1, hz, p1.ok (by simp [RepV]) s1⟩
      · exact p1.elim
    · exact p1.elim
  · exact p1.elim
end Pd

/-! Pd, part 13: each expression that is checked is kept. -/
namespace Pd
open PySem PySem.Spec L2

section
variable {w : Wd} {T : Tab} {fuel k : Nat} {N : List Str} {ow sc : Scope} {W : WX} {X : Cx}

/-! ### a op b op c -/
theorem de_chain (G : Good w T fuel k N ow sc W X) {a b c : Expr} {ma mb mc : Env → M Val} {o1 o2 : Cop} {p1 p2 : CmpOp} {pos : Pos} (h1 : copB o1 p1 = true) (h2 : copB o2 p2 = true) (ha : DE w W X a ma) (hb : DE w W X b mb) (hc : DE w W X c mc) (hm : lastMarks [p1, p2] [b, c] = false) :
    DE w W X (.Compare a [p1, p2] [b, c] pos) (fun env => do
      let x ← ma env
      let y ← mb env
      let r ← cmpV o1 x y
      let t ← truthM r
      if t then do let z ← mc env; cmpV o2 y z else pure r) := by
  obtain ⟨ta, pa, qa⟩ := ha.ex
  obtain ⟨tb, pb, qb⟩ := hb.ex
  obtain ⟨tc, pc, qc⟩ := hc.ex
  refine ⟨_, pe_chain (op_cmp h1 G.room.units) (op_cmp h2 G.room.units) pa pb pc hm, fun ρ σ H env S Q re rs p => ?_⟩
  refine qa ρ σ H env S _ re rs (p.bind.imp fun x H1 ⟨u, ρ1, S1, e1, r1, s1, p1⟩ => ?_)
  refine qb ρ1 σ H1 env S1 _ (re.ext e1) s1 (p1.bind.imp fun y H2 ⟨v, ρ2, S2, e2, r2, s2, p2⟩ => ?_)
  rw [G.hK]
  refine cmp_ok (W := W) (σ := σ) (r1.ext e2) r2 s2 (?_ : Post w W σ (RepV w) ρ2 H2 (cmpV o1 u v S2) _)
  rw [bind_app] at p2
  cases q : cmpV o1 u v S2 with
  | bad => rw [q] at p2; exact p2.elim
  | exc e S' => rw [q] at p2; exact p2
  | ok r S3 =>
    rw [q] at p2
    obtain ⟨d, rfl⟩ := cmp_bool q
    intro z ρ3 H3 e3 r3 s3
    simp only [RepV] at r3
    refine ⟨d, r3, ?_⟩
    have p3 := p2.later e3
    cases d with
    | false =>
      rw [if_neg Bool.false_ne_true]
      exact p3.ok (by simp [RepV]) s3
    | true =>
      rw [if_pos rfl]
      have p3 : Post w W σ (RepV w) ρ3 H3 ((mc env >>= fun z => cmpV o2 v z) S3) Q := p3
      refine qc ρ3 σ H3 env S3 _ (re.ext ((e1.trans e2).trans e3)) s3 (p3.bind.imp fun y H4 ⟨v4, ρ4, S4, e4, r4, s4, p4⟩ => ?_)
      exact cmp_ok ((r2.ext e3).ext e4) r4 s4 p4
theorem dt_chain (G : Good w T fuel k N ow sc W X) {a b c : Expr} {ma mb mc : Env → M Val} {o1 o2 : Cop} {p1 p2 : CmpOp} {pos : Pos} (h1 : copB o1 p1 = true) (h2 : copB o2 p2 = true) (ha : DE w W X a ma) (hb : DE w W X b mb) (hc : DE w W X c mc) (hm : lastMarks [p1, p2] [b, c] = false) :
    DT w W X (.Compare a [p1, p2] [b, c] pos) (fun env => (do
      let x ← ma env
      let y ← mb env
      let r ← cmpV o1 x y
      let t ← truthM r
      if t then do let z ← mc env; cmpV o2 y z else pure r) >>= truthM) := by
  obtain ⟨ta, pa, qa⟩ := ha.ex
  obtain ⟨tb, pb, qb⟩ := hb.ex
  obtain ⟨tc, pc, qc⟩ := hc.ex
  refine ⟨_, pt_chain (op_cmp h1 G.room.units) (op_cmp h2 G.room.units) pa pb pc hm, fun ρ σ H env S Q re rs p => ?_⟩
  simp only [M.assoc] at p
  refine qa ρ σ H env S _ re rs (p.bind.imp fun x H1 ⟨u, ρ1, S1, e1, r1, s1, p1⟩ => ?_)
  refine qb ρ1 σ H1 env S1 _ (re.ext e1) s1 (p1.bind.imp fun y H2 ⟨v, ρ2, S2, e2, r2, s2, p2⟩ => ?_)
  rw [G.hK]
  refine cmp_ok (W := W) (σ := σ) (r1.ext e2) r2 s2 (?_ : Post w W σ (RepV w) ρ2 H2 (cmpV o1 u v S2) _)
  rw [bind_app] at p2
  cases q : cmpV o1 u v S2 with
  | bad => rw [q] at p2; exact p2.elim
  | exc e S' => rw [q] at p2; exact p2
  | ok r S3 =>
    rw [q] at p2
    obtain ⟨d, rfl⟩ := cmp_bool q
    intro z ρ3 H3 e3 r3 s3
    simp only [RepV] at r3
    refine ⟨d, r3, ?_⟩
    have p3 := p2.later e3
    cases d with
    | false =>
      rw [if_neg Bool.false_ne_true]
      exact ⟨false, rfl, p3.ok rfl s3⟩
    | true =>
      rw [if_pos rfl]
      have p3 : Post w W σ (fun _ _ a b => a = b) ρ3 H3 (((mc env >>= fun z => cmpV o2 v z) >>= truthM) S3) Q := p3
      rw [M.assoc] at p3
      refine qc ρ3 σ H3 env S3 _ (re.ext ((e1.trans e2).trans e3)) s3 (p3.bind.imp fun y H4 ⟨v4, ρ4, S4, e4, r4, s4, p4⟩ => ?_)
      exact cmp_ok ((r2.ext e3).ext e4) r4 s4 (p4.asked fun _ _ => cmp_bool)

/-- what a checked expression is not -/
theorem chkE_star {i : IE} {x : Expr} {p : Pos} (h : chkE T N sc i (.Starred x p) = true) : False := by
  cases i <;> simp [chkE, chkLs, chkDv] at h
theorem chkE_slice {i : IE} {a b c : Option Expr} {p : Pos} (h : chkE T N sc i (.Slice a b c p) = true) : False := by
  cases i <;> simp [chkE, chkLs, chkDv] at h
theorem chkE_super {i : IE} {e : Expr} (h : chkE T N sc i e = true) : ∀ x p q, e = .Call (.Name x p) [] [] q → x ≠ "super" := by
  rintro x p q rfl
  cases i <;> simp only [chkE, chkLs, chkDv, Bool.and_eq_true, decide_eq_true_eq, Bool.false_eq_true] at h
  case call f es => exact sup_of h.1.2
  case callK f q es ks => exact sup_of h.1.1.1.2
  case mk c q es ks => exact sup_of h.1.1.1.2
  case bi b es => exact sup_of h.1.1.1.2
theorem chkEs_star : ∀ {is : IEs} {es : List Expr}, chkEs T N sc is es = true → NoStar es
  | .nil, [], _ => fun _ z => (List.not_mem_nil z).elim
  | .nil, _ :: _, h => by simp [chkEs] at h
  | .cons _ _, [], h => by simp [chkEs] at h
  | .cons i is, e :: es, h => by
    simp only [chkEs, Bool.and_eq_true] at h
    intro z hz
    rcases List.mem_cons.mp hz with rfl | hz
    · intro x p q
      subst q
      exact chkE_star h.1
    · exact chkEs_star h.2 z hz
end
end Pd

/-! Pd, part 14: each expression that is checked is kept. -/
namespace Pd
open PySem PySem.Spec L2

abbrev Tab.C (T : Tab) (fuel k : Nat) : EvC := ⟨callF T fuel k, T.kwV, T.globs, T.cnames, T.gds, T.xs, T.mkwV, T.cs⟩
/-- a value and a test -/
structure DB (w : Wd) (W : WX) (X : Cx) (e : Expr) (m : Env → M Val) : Prop where
  de : DE w W X e m
  dt : DT w W X e (fun env => m env >>= truthM)

section
variable {w : Wd} {T : Tab} {fuel k : Nat} {N : List Str} {ow sc : Scope} {W : WX} {X : Cx}
theorem db_plain (G : Good w T fuel k N ow sc W X) {e : Expr} {m : Env → M Val} (h : DE w W X e m) (he : ∀ whole, isTrue e X.env whole = (do let v ← whole; standAt e.pos; holding [v] (truthy v)) := by intro _; rfl) : DB w W X e m := ⟨h, dt_plain G h he⟩
theorem db_ls (G : Good w T fuel k N ow sc W X) {i j : Nat} {own : List (Str × Nat)} {e : Expr} (h : chkLs T N sc i j own e = true) : DB w W X e (fun env => do let x ← ofOpt (envGet env i); need (decide (j < env.length)); lsetM x) := by
  have D := de_ls G h
  unfold chkLs at h
  split at h
  · exact db_plain G D
  · cases h
theorem db_dv (G : Good w T fuel k N ow sc W X) {i j : Nat} {own : List (Str × Nat)} {e : Expr} (h : chkDv N sc i j own e = true) : DB w W X e (fun env => do let x ← ofOpt (envGet env i); need (decide (j < env.length)); dvalsM x) := by
  have D := de_dv G h
  unfold chkDv at h
  split at h
  · exact db_plain G D
  · cases h
theorem setIt_ok {i : II} {e : Expr} {env : PySem.Env} (h : chkI T N sc i e = true) : ∀ x, foldedSetIterable e env x = pure x := by
  intro x
  unfold foldedSetIterable
  split
  · cases i with
    | val a => cases a <;> simp [chkI, chkE, chkLs, chkDv] at h
    | range1 a => simp [chkI] at h
    | range2 a b => simp [chkI] at h
    | range3 a b c => simp [chkI] at h
    | enum a => simp [chkI] at h
    | zip st a b => cases st <;> simp [chkI] at h
  · rfl
/-- the pairs of a display that is checked -/
theorem chkD_facts : ∀ {ds : IDs} {ks : List (Option Expr)} {vs : List Expr}, chkD T N sc ds ks vs = true → ks.all (·.isSome) = true ∧ ks.length = vs.length ∧ ks.length = lenDs ds
  | .nil, ks, vs, h => by
    cases ks <;> cases vs <;> first | (simp [chkD] at h; done) | exact ⟨rfl, rfl, rfl⟩
  | .cons i e ds, ks, vs, h => by
    cases ks with
    | nil => simp [chkD] at h
    | cons kx ks =>
      cases kx with
      | none => simp [chkD] at h
      | some kx =>
        cases vs with
        | nil => simp [chkD] at h
        | cons vx vs =>
          simp only [chkD, Bool.and_eq_true] at h
          obtain ⟨a, b, c⟩ := chkD_facts h.2
          exact ⟨by simpa using a, by simp [b], by simp [c, lenDs]⟩
theorem evD_len {C : EvC} : ∀ {ds : IDs} {env : Env} {S : Store} {kvs : List (DKey × Val)} {S' : Store}, evD C ds env S = .ok kvs S' → kvs.length = lenDs ds
  | .nil, env, S, kvs, S', h => by
    simp only [evD, pure_app] at h
    injection h with h1 h2
    subst h1; rfl
  | .cons i e ds, env, S, kvs, S', h => by
    simp only [evD, bind_app] at h
    cases q1 : evE C i env S with
    | bad => rw [q1] at h; cases h
    | exc _ _ => rw [q1] at h; cases h
    | ok x S1 =>
      rw [q1] at h
      dsimp only at h
      cases q2 : evE C e env S1 with
      | bad => rw [q2] at h; cases h
      | exc _ _ => rw [q2] at h; cases h
      | ok v S2 =>
        rw [q2] at h
        dsimp only at h
        cases q3 : evD C ds env S2 with
        | bad => rw [q3] at h; cases h
        | exc _ _ => rw [q3] at h; cases h
        | ok r S3 =>
          rw [q3] at h
          dsimp only at h
          cases q4 : keyOf x with
          | none => rw [q4] at h; cases h
          | some q =>
            rw [q4] at h
            injection h with h1 h2
            subst h1
            simp [lenDs, evD_len q3]
set_option hygiene false in
set_option maxHeartbeats 8000000 in
mutual
theorem db_of : ∀ (i : IE) (e : Expr) {ow sc : Scope} {W : WX} {X : Cx}, Good w T fuel k N ow sc W X → chkE T N sc i e = true → DB w W X e (evE (T.C fuel k) i)
  | .lit l, e, ow, sc, W, X, G, h => by
    cases e <;> first | (simp [chkE] at h; done) | skip
    simp only [chkE] at h
    simp only [evE]
    exact db_plain G (de_lit h)
  | .var i, e, ow, sc, W, X, G, h => by
    cases e <;> first | (simp [chkE] at h; done) | skip
    simp only [chkE] at h
    simp only [evE]
    exact db_plain G (de_var G h)
  | .glob g, e, ow, sc, W, X, G, h => by
    cases e <;> first | (simp [chkE] at h; done) | skip
    simp only [chkE] at h
    simp only [evE]
    exact db_plain G (de_glob G h)
  | .bin op a b, e, ow, sc, W, X, G, h => by
    cases e <;> first | (simp [chkE] at h; done) | skip
    simp only [chkE, Bool.and_eq_true] at h
    simp only [evE]
    exact db_plain G (de_bin2 (op_bin h.1.1) (db_of a _ G h.1.2).de (db_of b _ G h.2).de fun ρ σ H S x y u v Q r1 r2 rs p => by rw [G.hK]; exact bin_ok r1 r2 rs p)
  | .neg a, e, ow, sc, W, X, G, h => by
    cases e <;> first | (simp [chkE] at h; done) | skip
    rename_i op x p
    cases op <;> first | (simp [chkE] at h; done) | skip
    simp only [chkE] at h
    simp only [evE]
    exact db_plain G (de_neg (db_of a _ G h).de)
  | .not a, e, ow, sc, W, X, G, h => by
    cases e <;> first | (simp [chkE] at h; done) | skip
    rename_i op x p
    cases op <;> first | (simp [chkE] at h; done) | skip
    simp only [chkE] at h
    simp only [evE]
    have D := db_of a _ G h
    exact ⟨de_not G D.de, dt_not D.dt⟩
  | .ife c a b, e, ow, sc, W, X, G, h => by
    cases e <;> first | (simp [chkE] at h; done) | skip
    simp only [chkE, Bool.and_eq_true] at h
    simp only [evE]
    have D1 := db_of c _ G h.1.1
    have D2 := db_of a _ G h.1.2
    have D3 := db_of b _ G h.2
    exact ⟨de_ife D1.dt D2.de D3.de, dt_ife D1.dt D2.dt D3.dt⟩
  | .cmp op a b, e, ow, sc, W, X, G, h => by
    cases e <;> first | (simp [chkE] at h; done) | skip
    rename_i l ops rs p
    rcases ops with _ | ⟨o, _ | ⟨_, _⟩⟩ <;> first | (simp [chkE] at h; done) | skip
    rcases rs with _ | ⟨r, _ | ⟨_, _⟩⟩ <;> first | (simp [chkE] at h; done) | skip
    simp only [chkE, Bool.and_eq_true, Bool.not_eq_true'] at h
    simp only [evE]
    have D1 := db_of a _ G h.1.1.2
    have D2 := db_of b _ G h.1.2
    have ok : ∀ ρ σ H S x y u v (Q : VK), RepV w ρ H u x → RepV w ρ H v y → RepS w ρ H S → Post w W σ (RepV w) ρ H (cmpV op u v S) Q → rCmp X.K op x y H Q := fun ρ σ H S x y u v Q r1 r2 rs p => by rw [G.hK]; exact cmp_ok r1 r2 rs p
    exact ⟨de_cmp2 (op_cmp h.1.1.1 G.room.units) D1.de D2.de h.2 ok, dt_cmp2 (op_cmp h.1.1.1 G.room.units) D1.de D2.de h.2 ok fun u v S v' S' q => cmp_bool q⟩
  | .chain o1 o2 a b c, e, ow, sc, W, X, G, h => by
    cases e <;> first | (simp [chkE] at h; done) | skip
    rename_i l ops rs p
    rcases ops with _ | ⟨p1, _ | ⟨p2, _ | ⟨_, _⟩⟩⟩ <;> first | (simp [chkE] at h; done) | skip
    rcases rs with _ | ⟨r1, _ | ⟨r2, _ | ⟨_, _⟩⟩⟩ <;> first | (simp [chkE] at h; done) | skip
    simp only [chkE, Bool.and_eq_true, Bool.not_eq_true'] at h
    simp only [evE]
    have D1 := db_of a _ G h.1.1.1.2
    have D2 := db_of b _ G h.1.1.2
    have D3 := db_of c _ G h.1.2
    exact ⟨de_chain G h.1.1.1.1.1 h.1.1.1.1.2 D1.de D2.de D3.de h.2, dt_chain G h.1.1.1.1.1 h.1.1.1.1.2 D1.de D2.de D3.de h.2⟩
  | .and a b, e, ow, sc, W, X, G, h => by
    cases e <;> first | (simp [chkE] at h; done) | skip
    rename_i op es p
    cases op <;> first | (simp [chkE] at h; done) | skip
    rcases es with _ | ⟨e1, _ | ⟨e2, r⟩⟩ <;> first | (simp [chkE] at h; done) | skip
    simp only [chkE, Bool.and_eq_true] at h
    simp only [evE]
    have D1 := db_of a _ G h.1
    cases r with
    | nil =>
      have D2 := db_of b _ G h.2
      exact ⟨de_and G D1.de (de_one D2.de), (dw_and D1.dt (dw_and1 D2.dt)).dt⟩
    | cons e3 r =>
      have D2 := db_of b _ G h.2
      exact ⟨de_and G D1.de D2.de, (dw_and D1.dt (dwA_of b _ _ _ _ G h.2)).dt⟩
  | .or a b, e, ow, sc, W, X, G, h => by
    cases e <;> first | (simp [chkE] at h; done) | skip
    rename_i op es p
    cases op <;> first | (simp [chkE] at h; done) | skip
    rcases es with _ | ⟨e1, _ | ⟨e2, r⟩⟩ <;> first | (simp [chkE] at h; done) | skip
    simp only [chkE, Bool.and_eq_true] at h
    simp only [evE]
    have D1 := db_of a _ G h.1
    cases r with
    | nil =>
      have D2 := db_of b _ G h.2
      exact ⟨de_or G D1.de (de_one D2.de), (dw_or D1.dt (dw_or1 D2.dt)).dt⟩
    | cons e3 r =>
      have D2 := db_of b _ G h.2
      exact ⟨de_or G D1.de D2.de, (dw_or D1.dt (dwO_of b _ _ _ _ G h.2)).dt⟩
  | .tup es, e, ow, sc, W, X, G, h => by
    cases e <;> first | (simp [chkE] at h; done) | skip
    simp only [chkE] at h
    simp only [evE]
    exact db_plain G (de_tup (da_of es _ G h))
  | .lst es, e, ow, sc, W, X, G, h => by
    cases e <;> first | (simp [chkE] at h; done) | skip
    simp only [chkE] at h
    simp only [evE]
    exact db_plain G (de_lst (da_of es _ G h))
  | .dsp ds, e, ow, sc, W, X, G, h => by
    cases e <;> first | (simp [chkE] at h; done) | skip
    rename_i ks vs p
    simp only [chkE, Bool.and_eq_true, decide_eq_true_eq] at h
    simp only [evE]
    obtain ⟨h1, h2⟩ := h
    obtain ⟨c1, c2, c3⟩ := chkD_facts h1
    cases ds with
    | nil =>
      cases ks <;> cases vs <;> first | (simp [chkD] at h1; done) | skip
      simp only [evD]
      exact db_plain G de_dsp0
    | cons k e ds =>
      refine db_plain G (de_dsp (dp_of' (.cons k e ds) ks vs p G h1) c1 c2 (fun z => ?_) h2 fun env S kvs S' q => ?_)
      · subst z
        simp [chkD] at h1
      · rw [c3, evD_len q]
  | .dcomp key elt own t it c, e, ow, sc, W, X, G, h => by
    cases e <;> first | (simp [chkE] at h; done) | skip
    rename_i kx el gs scope p
    rcases gs with _ | ⟨⟨tg, ie, ifs, as⟩, _ | ⟨_, _⟩⟩ <;> first | (simp [chkE] at h; done) | skip
    simp only [chkE, Bool.and_eq_true, List.all_eq_true, decide_eq_true_eq] at h
    simp only [evE]
    obtain ⟨⟨⟨⟨⟨⟨⟨⟨h0, h1⟩, htg⟩, h2⟩, h3⟩, h4⟩, h5⟩, h6⟩, h7⟩ := h
    subst h0
    refine db_plain G (de_dcomp G (blkOk_by h2) (di_of it _ tg G htg h1) h4 (fun i hi => by simpa using h3 i hi) (fun X' G' => ?_) (fun X' G' => (db_of key _ G' h6).de) (fun X' G' => (db_of elt _ G' h7).de) (setIt_ok h1))
    cases c with
    | none =>
      cases ifs with
      | nil => exact .inl ⟨rfl, by simp only [evK]⟩
      | cons _ _ => simp [chkTO] at h5
    | some c =>
      rcases ifs with _ | ⟨f, _ | ⟨_, _⟩⟩ <;> first | (simp [chkTO] at h5; done) | skip
      simp only [chkTO] at h5
      simp only [evK]
      exact .inr ⟨f, rfl, (db_of c _ G' h5).dt⟩
  | .fld a f, e, ow, sc, W, X, G, h => by
    cases e <;> first | (simp [chkE] at h; done) | skip
    simp only [chkE, Bool.and_eq_true, decide_eq_true_eq] at h
    obtain ⟨rfl, h⟩ := h
    simp only [evE]
    exact db_plain G (de_fld G (attr_base (chkE_super h)) (db_of a _ G h).de)
  | .mk c q es ks, e, ow, sc, W, X, G, h => by
    cases e <;> first | (simp [chkE] at h; done) | skip
    rename_i fe xs kw p
    cases fe <;> first | (simp [chkE] at h; done) | skip
    simp only [chkE, Bool.and_eq_true, decide_eq_true_eq] at h
    simp only [evE]
    obtain ⟨⟨⟨⟨⟨h1, h2⟩, h3⟩, h4⟩, h5⟩, h6⟩ := h
    refine db_plain G (de_mk G h1 h2 h3 h4 (chkEs_star h5) (da_of es _ G h5) (fun y => ?_) (dk_of ks kw G h6))
    subst y
    cases es with
    | nil => simp only [evEs]
    | cons _ _ => simp [chkEs] at h5
  | .idx a b, e, ow, sc, W, X, G, h => by
    cases e <;> first | (simp [chkE] at h; done) | skip
    simp only [chkE, Bool.and_eq_true] at h
    simp only [evE]
    exact db_plain G (de_idx G (fun l u st p q => by subst q; exact chkE_slice h.2) (db_of a _ G h.1).de (db_of b _ G h.2).de)
  | .slc a lo hi, e, ow, sc, W, X, G, h => by
    cases e <;> first | (simp [chkE] at h; done) | skip
    rename_i x y p
    cases y <;> first | (simp [chkE] at h; done) | skip
    rename_i l u st p2
    cases st <;> first | (simp [chkE] at h; done) | skip
    simp only [chkE, Bool.and_eq_true] at h
    simp only [evE]
    exact db_plain G (de_slc G (db_of a _ G h.1.1).de (do_of lo _ G h.1.2) (do_of hi _ G h.2))
  | .rev a, e, ow, sc, W, X, G, h => by
    cases e <;> first | (simp [chkE] at h; done) | skip
    rename_i x y p
    cases y <;> first | (simp [chkE] at h; done) | skip
    rename_i l u st p2
    cases l <;> first | (simp [chkE] at h; done) | skip
    cases u <;> first | (simp [chkE] at h; done) | skip
    cases st <;> first | (simp [chkE] at h; done) | skip
    rename_i st
    cases st <;> first | (simp [chkE] at h; done) | skip
    rename_i op z p3
    cases op <;> first | (simp [chkE] at h; done) | skip
    cases z <;> first | (simp [chkE] at h; done) | skip
    rename_i c j p4
    cases c <;> first | (simp [chkE] at h; done) | skip
    simp only [chkE, Bool.and_eq_true, decide_eq_true_eq] at h
    obtain ⟨rfl, h⟩ := h
    simp only [evE]
    exact db_plain G (de_rev G (db_of a _ G h).de)
  | .call f es, e, ow, sc, W, X, G, h => by
    cases e <;> first | (simp [chkE] at h; done) | skip
    rename_i fe xs kw p
    cases fe <;> first | (simp [chkE] at h; done) | skip
    cases kw <;> first | (simp [chkE] at h; done) | skip
    simp only [chkE, Bool.and_eq_true, decide_eq_true_eq] at h
    simp only [evE]
    have ha := da_of es _ G h.2
    have hn := chkEs_star h.2
    cases q : T.fns[f]? with
    | none => rw [q] at h; cases h.1.1.1.2
    | some d =>
      rw [q] at h
      have e := Option.some.inj h.1.1.1.2
      have hni : T.ini f = false := by simpa using h.1.1.1.1
      cases xs with
      | nil =>
        cases es with
        | nil => simp only [evEs]; exact db_plain G (de_call0 G hni q e h.1.1.2 h.1.2)
        | cons _ _ => simp [chkEs] at h
      | cons x xs => exact db_plain G (de_call G hni q e h.1.1.2 h.1.2 hn ha)
  | .callK f q es ks, e, ow, sc, W, X, G, h => by
    cases e <;> first | (simp [chkE] at h; done) | skip
    rename_i fe xs kw p
    cases fe <;> first | (simp [chkE] at h; done) | skip
    simp only [chkE, Bool.and_eq_true, decide_eq_true_eq] at h
    simp only [evE]
    obtain ⟨⟨⟨⟨⟨⟨h0, h1⟩, h2⟩, h3⟩, h4⟩, h5⟩, h6⟩ := h
    have hni : T.ini f = false := by simpa using h0
    have ha := da_of es _ G h5
    have hn := chkEs_star h5
    cases z : T.fns[f]? with
    | none => rw [z] at h1; cases h1
    | some d =>
      rw [z] at h1
      have e := Option.some.inj h1
      refine db_plain G (de_callK G hni z e h2 h3 h4 hn ha (fun y => ?_) (dk_of ks kw G h6))
      subst y
      cases es with
      | nil => simp only [evEs]
      | cons _ _ => simp [chkEs] at h5
  | .bi b es, e, ow, sc, W, X, G, h => by
    cases e <;> first | (simp [chkE] at h; done) | skip
    rename_i fe xs kw p
    cases fe <;> first | (simp [chkE] at h; done) | skip
    cases kw <;> first | (simp [chkE] at h; done) | skip
    simp only [chkE, Bool.and_eq_true, decide_eq_true_eq, List.contains_eq_mem] at h
    simp only [evE]
    obtain ⟨⟨⟨⟨⟨h1, h2⟩, h3⟩, h4⟩, h5⟩, h6⟩ := h
    subst h1
    cases xs with
    | nil => simp at h6
    | cons x xs => exact db_plain G (de_bi G h2 h4 (chkEs_star h5) (da_of es _ G h5))
  | .isin a ts, e, ow, sc, W, X, G, h => by
    cases e <;> first | (simp [chkE] at h; done) | skip
    rename_i fe xs kw p
    cases fe <;> first | (simp [chkE] at h; done) | skip
    rcases xs with _ | ⟨x, _ | ⟨y, _ | ⟨_, _⟩⟩⟩ <;> first | (simp [chkE] at h; done) | skip
    cases kw <;> first | (simp [chkE] at h; done) | skip
    simp only [chkE, Bool.and_eq_true, decide_eq_true_eq, List.contains_eq_mem] at h
    simp only [evE]
    obtain ⟨⟨⟨⟨h1, h2⟩, h3⟩, h4⟩, h5⟩ := h
    subst h1
    have hs : ∀ y q, x ≠ .Starred y q := fun y q z => by subst z; exact chkE_star h4
    have D := (db_of a _ G h4).de
    cases y <;> first | (simp [tyN] at h5; done) | skip
    · simp only [tyN, Bool.and_eq_true, decide_eq_true_eq] at h5
      obtain ⟨t, rfl⟩ := List.length_eq_one_iff.mp h5.1
      exact db_plain G (de_isin1 G h2 h3 hs D h5.2)
    · simp only [tyN, Bool.and_eq_true, decide_eq_true_eq] at h5
      exact db_plain G (de_isinT G h2 h3 hs D h5.2 (Nat.le_trans h5.1 (by decide)))
  | .bm m o es, e, ow, sc, W, X, G, h => by
    cases e <;> first | (simp [chkE] at h; done) | skip
    rename_i fe xs kw p
    cases fe <;> first | (simp [chkE] at h; done) | skip
    cases kw <;> first | (simp [chkE] at h; done) | skip
    simp only [chkE, Bool.and_eq_true, decide_eq_true_eq] at h
    simp only [evE]
    obtain ⟨⟨⟨⟨⟨h1, h2⟩, h3⟩, h4⟩, h5⟩, h6⟩ := h
    subst h1
    have D := db_of o _ G h2
    have ha := da_of es _ G h3
    have hn := chkEs_star h3
    have hb := chkE_super h2
    by_cases hm : m = .bitlen
    · subst hm
      rcases xs with _ | ⟨_, _⟩ <;> first | (simp [bmAr] at h6; done) | skip
      cases es <;> first | (simp [chkEs] at h3; done) | skip
      simp only [evEs]
      exact db_plain G (de_bitlen D.de hb h5)
    by_cases hm2 : m = .pop
    · subst hm2
      rcases xs with _ | ⟨_, _⟩ <;> first | (simp [bmAr] at h6; done) | skip
      cases es <;> first | (simp [chkEs] at h3; done) | skip
      simp only [evEs]
      exact db_plain G (de_pop G D.de hb h5)
    cases xs with
    | nil => cases m <;> first | (simp [bmAr] at h6; done) | exact absurd rfl hm | exact absurd rfl hm2
    | cons x xs => exact db_plain G (de_bm G ⟨hm, hm2⟩ D.de hb ha hn h4 h5)
  | .comp elt own t it c, e, ow, sc, W, X, G, h => by
    cases e <;> first | (simp [chkE] at h; done) | skip
    rename_i el gs scope p
    rcases gs with _ | ⟨⟨tg, ie, ifs, as⟩, _ | ⟨_, _⟩⟩ <;> first | (simp [chkE] at h; done) | skip
    simp only [chkE, Bool.and_eq_true, List.all_eq_true, decide_eq_true_eq] at h
    simp only [evE]
    obtain ⟨⟨⟨⟨⟨⟨⟨h0, h1⟩, htg⟩, h2⟩, h3⟩, h4⟩, h5⟩, h6⟩ := h
    subst h0
    refine db_plain G (de_comp G (blkOk_by h2) (di_of it _ tg G htg h1) h4 (fun i hi => by simpa using h3 i hi) (fun X' G' => ?_) (fun X' G' => (db_of elt _ G' h6).de) (setIt_ok h1))
    cases c with
    | none =>
      cases ifs with
      | nil => exact .inl ⟨rfl, by simp only [evK]⟩
      | cons _ _ => simp [chkTO] at h5
    | some c =>
      rcases ifs with _ | ⟨f, _ | ⟨_, _⟩⟩ <;> first | (simp [chkTO] at h5; done) | skip
      simp only [chkTO] at h5
      simp only [evK]
      exact .inr ⟨f, rfl, (db_of c _ G' h5).dt⟩
  | .comp2 elt own t it c inn t2 it2 c2, e, ow, sc, W, X, G, h => by
    cases e <;> first | (simp [chkE] at h; done) | skip
    rename_i el gs scope p
    rcases gs with _ | ⟨⟨tg, ie, ifs, as⟩, _ | ⟨⟨tg2, ie2, ifs2, as2⟩, _ | ⟨_, _⟩⟩⟩ <;> first | (simp [chkE] at h; done) | skip
    simp only [chkE, Bool.and_eq_true, List.all_eq_true, decide_eq_true_eq] at h
    simp only [evE]
    obtain ⟨⟨⟨⟨⟨⟨⟨⟨⟨⟨⟨⟨⟨⟨h0, h00⟩, h1⟩, htg⟩, h2⟩, h3⟩, h4⟩, h5⟩, h6⟩, h7⟩, h8⟩, h9⟩, htg2⟩, h10⟩, h11⟩ := h
    subst h0 h00
    refine db_plain G (de_comp2 G (blkOk_by h2) (di_of it _ tg G htg h1) h4 (fun i hi => by simpa using h3 i hi) (fun i hi => by simpa using h6 i hi) h8 (fun i hi => by simpa using h7 i hi) (fun X' G' => ?_) (fun X' G' => di_of it2 _ tg2 G' htg2 h9) (fun X' G' => ?_) (fun X' G' => (db_of elt _ G' h11).de) (setIt_ok h1) (fun env => setIt_ok h9))
    · cases c with
      | none =>
        cases ifs with
        | nil => exact .inl ⟨rfl, by simp only [evK]⟩
        | cons _ _ => simp [chkTO] at h5
      | some c =>
        rcases ifs with _ | ⟨f, _ | ⟨_, _⟩⟩ <;> first | (simp [chkTO] at h5; done) | skip
        simp only [chkTO] at h5
        simp only [evK]
        exact .inr ⟨f, rfl, (db_of c _ G' h5).dt⟩
    · cases c2 with
      | none =>
        cases ifs2 with
        | nil => exact .inl ⟨rfl, by simp only [evK]⟩
        | cons _ _ => simp [chkTO] at h10
      | some c =>
        rcases ifs2 with _ | ⟨f, _ | ⟨_, _⟩⟩ <;> first | (simp [chkTO] at h10; done) | skip
        simp only [chkTO] at h10
        simp only [evK]
        exact .inr ⟨f, rfl, (db_of c _ G' h10).dt⟩
  | .gin neg a g, e, ow, sc, W, X, G, h => by
    cases neg with
    | false =>
      cases e <;> first | (simp [chkE] at h; done) | skip
      rename_i l ops rs pos
      rcases ops with _ | ⟨o, _ | ⟨_, _⟩⟩ <;> first | (simp [chkE] at h; done) | skip
      rcases rs with _ | ⟨e2, _ | ⟨_, _⟩⟩ <;> first | (simp [chkE] at h; done) | skip
      all_goals (cases o <;> first | (simp [chkE] at h; done) | skip)
      all_goals (cases e2 <;> first | (simp [chkE] at h; done) | skip)
      simp only [chkE, Bool.and_eq_true, Bool.not_eq_true'] at h
      simp only [evE]
      exact ⟨de_gin G (neg := false) ⟨of_decide_eq_true h.1.1.1.1, h.1.1.1.2, h.1.1.2⟩ (db_of a _ G h.1.2).de h.2, dt_gin G (neg := false) ⟨of_decide_eq_true h.1.1.1.1, h.1.1.1.2, h.1.1.2⟩ (db_of a _ G h.1.2).de h.2⟩
    | true =>
      cases e <;> first | (simp [chkE] at h; done) | skip
      rename_i l ops rs pos
      rcases ops with _ | ⟨o, _ | ⟨_, _⟩⟩ <;> first | (simp [chkE] at h; done) | skip
      rcases rs with _ | ⟨e2, _ | ⟨_, _⟩⟩ <;> first | (simp [chkE] at h; done) | skip
      all_goals (cases o <;> first | (simp [chkE] at h; done) | skip)
      all_goals (cases e2 <;> first | (simp [chkE] at h; done) | skip)
      simp only [chkE, Bool.and_eq_true, Bool.not_eq_true'] at h
      simp only [evE]
      exact ⟨de_gin G (neg := true) ⟨of_decide_eq_true h.1.1.1.1, h.1.1.1.2, h.1.1.2⟩ (db_of a _ G h.1.2).de h.2, dt_gin G (neg := true) ⟨of_decide_eq_true h.1.1.1.1, h.1.1.1.2, h.1.1.2⟩ (db_of a _ G h.1.2).de h.2⟩
  | .gix g b, e, ow, sc, W, X, G, h => by
    cases e <;> first | (simp [chkE] at h; done) | skip
    rename_i e1 y pos
    cases e1 <;> first | (simp [chkE] at h; done) | skip
    simp only [chkE, Bool.and_eq_true] at h
    simp only [evE]
    exact db_plain G (de_gix G ⟨of_decide_eq_true h.1.1.1, h.1.1.2, h.1.2⟩ (fun l u st p q => by subst q; exact chkE_slice h.2) (db_of b _ G h.2).de)
  | .lset2 a, e, ow, sc, W, X, G, h => by
    cases e <;> first | (simp [chkE] at h; done) | skip
    rename_i fe xs kw p
    cases fe <;> first | (simp [chkE] at h; done) | skip
    rcases xs with _ | ⟨x, _ | ⟨_, _⟩⟩ <;> first | (simp [chkE] at h; done) | skip
    cases x <;> first | (simp [chkE] at h; done) | skip
    rename_i fe2 xs2 kw2 p2
    cases fe2 <;> first | (simp [chkE] at h; done) | skip
    rcases xs2 with _ | ⟨x2, _ | ⟨_, _⟩⟩ <;> first | (simp [chkE] at h; done) | skip
    cases kw2 <;> first | (simp [chkE] at h; done) | skip
    cases kw <;> first | (simp [chkE] at h; done) | skip
    simp only [chkE, Bool.and_eq_true, decide_eq_true_eq, List.contains_eq_mem] at h
    obtain ⟨⟨⟨⟨⟨⟨rfl, h2⟩, h3⟩, rfl⟩, h5⟩, h6⟩, h7⟩ := h
    simp only [evE]
    exact db_plain G (de_lset2 G h2 h3 h5 h6 (fun y q z => by subst z; exact chkE_star h7) (db_of a _ G h7).de)
  | .lset i j own, e, ow, sc, W, X, G, h => by
    simp only [chkE] at h
    simp only [evE]
    exact db_ls G h
  | .dvals i j own, e, ow, sc, W, X, G, h => by
    simp only [chkE] at h
    simp only [evE]
    exact db_dv G h
theorem dwA_of : ∀ (i : IE) (e1 e2 : Expr) (r : List Expr) (p : Pos) {ow sc : Scope} {W : WX} {X : Cx}, Good w T fuel k N ow sc W X → chkE T N sc i (.BoolOp .And (e1 :: e2 :: r) p) = true → DW w W X (.BoolOp .And (e1 :: e2 :: r) p) (fun env => evE (T.C fuel k) i env >>= truthM)
  | .and a b, e1, e2, r, p, ow, sc, W, X, G, h => by
    simp only [chkE, Bool.and_eq_true] at h
    simp only [evE]
    have D1 := db_of a _ G h.1
    cases r with
    | nil => exact dw_and D1.dt (dw_and1 (db_of b _ G h.2).dt)
    | cons e3 r => exact dw_and D1.dt (dwA_of b _ _ _ _ G h.2)
  | .lit _, e1, e2, r, p, ow, sc, W, X, G, h => by simp [chkE] at h
  | .var _, e1, e2, r, p, ow, sc, W, X, G, h => by simp [chkE] at h
  | .glob _, e1, e2, r, p, ow, sc, W, X, G, h => by simp [chkE] at h
  | .bin _ _ _, e1, e2, r, p, ow, sc, W, X, G, h => by simp [chkE] at h
  | .neg _, e1, e2, r, p, ow, sc, W, X, G, h => by simp [chkE] at h
  | .not _, e1, e2, r, p, ow, sc, W, X, G, h => by simp [chkE] at h
  | .or _ _, e1, e2, r, p, ow, sc, W, X, G, h => by simp [chkE] at h
  | .cmp _ _ _, e1, e2, r, p, ow, sc, W, X, G, h => by simp [chkE] at h
  | .chain _ _ _ _ _, e1, e2, r, p, ow, sc, W, X, G, h => by simp [chkE] at h
  | .ife _ _ _, e1, e2, r, p, ow, sc, W, X, G, h => by simp [chkE] at h
  | .tup _, e1, e2, r, p, ow, sc, W, X, G, h => by simp [chkE] at h
  | .lst _, e1, e2, r, p, ow, sc, W, X, G, h => by simp [chkE] at h
  | .dsp _, e1, e2, r, p, ow, sc, W, X, G, h => by simp [chkE] at h
  | .dcomp _ _ _ _ _ _, e1, e2, r, p, ow, sc, W, X, G, h => by simp [chkE] at h
  | .fld _ _, e1, e2, r, p, ow, sc, W, X, G, h => by simp [chkE] at h
  | .idx _ _, e1, e2, r, p, ow, sc, W, X, G, h => by simp [chkE] at h
  | .slc _ _ _, e1, e2, r, p, ow, sc, W, X, G, h => by simp [chkE] at h
  | .rev _, e1, e2, r, p, ow, sc, W, X, G, h => by simp [chkE] at h
  | .call _ _, e1, e2, r, p, ow, sc, W, X, G, h => by simp [chkE] at h
  | .bi _ _, e1, e2, r, p, ow, sc, W, X, G, h => by simp [chkE] at h
  | .isin _ _, e1, e2, r, p, ow, sc, W, X, G, h => by simp [chkE] at h
  | .bm _ _ _, e1, e2, r, p, ow, sc, W, X, G, h => by simp [chkE] at h
  | .comp _ _ _ _ _, e1, e2, r, p, ow, sc, W, X, G, h => by simp [chkE] at h
  | .comp2 _ _ _ _ _ _ _ _ _, e1, e2, r, p, ow, sc, W, X, G, h => by simp [chkE] at h
  | .callK _ _ _ _, e1, e2, r, p, ow, sc, W, X, G, h => by simp [chkE] at h
  | .gin _ _ _, e1, e2, r, p, ow, sc, W, X, G, h => by simp [chkE] at h
  | .gix _ _, e1, e2, r, p, ow, sc, W, X, G, h => by simp [chkE] at h
  | .lset _ _ _, e1, e2, r, p, ow, sc, W, X, G, h => by simp [chkE, chkLs] at h
  | .lset2 _, e1, e2, r, p, ow, sc, W, X, G, h => by simp [chkE] at h
  | .dvals _ _ _, e1, e2, r, p, ow, sc, W, X, G, h => by simp [chkE, chkDv] at h
  | .mk _ _ _ _, e1, e2, r, p, ow, sc, W, X, G, h => by simp [chkE] at h
theorem dwO_of : ∀ (i : IE) (e1 e2 : Expr) (r : List Expr) (p : Pos) {ow sc : Scope} {W : WX} {X : Cx}, Good w T fuel k N ow sc W X → chkE T N sc i (.BoolOp .Or (e1 :: e2 :: r) p) = true → DW w W X (.BoolOp .Or (e1 :: e2 :: r) p) (fun env => evE (T.C fuel k) i env >>= truthM)
  | .or a b, e1, e2, r, p, ow, sc, W, X, G, h => by
    simp only [chkE, Bool.and_eq_true] at h
    simp only [evE]
    have D1 := db_of a _ G h.1
    cases r with
    | nil => exact dw_or D1.dt (dw_or1 (db_of b _ G h.2).dt)
    | cons e3 r => exact dw_or D1.dt (dwO_of b _ _ _ _ G h.2)
  | .lit _, e1, e2, r, p, ow, sc, W, X, G, h => by simp [chkE] at h
  | .var _, e1, e2, r, p, ow, sc, W, X, G, h => by simp [chkE] at h
  | .glob _, e1, e2, r, p, ow, sc, W, X, G, h => by simp [chkE] at h
  | .bin _ _ _, e1, e2, r, p, ow, sc, W, X, G, h => by simp [chkE] at h
  | .neg _, e1, e2, r, p, ow, sc, W, X, G, h => by simp [chkE] at h
  | .not _, e1, e2, r, p, ow, sc, W, X, G, h => by simp [chkE] at h
  | .and _ _, e1, e2, r, p, ow, sc, W, X, G, h => by simp [chkE] at h
  | .cmp _ _ _, e1, e2, r, p, ow, sc, W, X, G, h => by simp [chkE] at h
  | .chain _ _ _ _ _, e1, e2, r, p, ow, sc, W, X, G, h => by simp [chkE] at h
  | .ife _ _ _, e1, e2, r, p, ow, sc, W, X, G, h => by simp [chkE] at h
  | .tup _, e1, e2, r, p, ow, sc, W, X, G, h => by simp [chkE] at h
  | .lst _, e1, e2, r, p, ow, sc, W, X, G, h => by simp [chkE] at h
  | .dsp _, e1, e2, r, p, ow, sc, W, X, G, h => by simp [chkE] at h
  | .dcomp _ _ _ _ _ _, e1, e2, r, p, ow, sc, W, X, G, h => by simp [chkE] at h
  | .fld _ _, e1, e2, r, p, ow, sc, W, X, G, h => by simp [chkE] at h
  | .idx _ _, e1, e2, r, p, ow, sc, W, X, G, h => by simp [chkE] at h
  | .slc _ _ _, e1, e2, r, p, ow, sc, W, X, G, h => by simp [chkE] at h
  | .rev _, e1, e2, r, p, ow, sc, W, X, G, h => by simp [chkE] at h
  | .call _ _, e1, e2, r, p, ow, sc, W, X, G, h => by simp [chkE] at h
  | .bi _ _, e1, e2, r, p, ow, sc, W, X, G, h => by simp [chkE] at h
  | .isin _ _, e1, e2, r, p, ow, sc, W, X, G, h => by simp [chkE] at h
  | .bm _ _ _, e1, e2, r, p, ow, sc, W, X, G, h => by simp [chkE] at h
  | .comp _ _ _ _ _, e1, e2, r, p, ow, sc, W, X, G, h => by simp [chkE] at h
  | .comp2 _ _ _ _ _ _ _ _ _, e1, e2, r, p, ow, sc, W, X, G, h => by simp [chkE] at h
  | .callK _ _ _ _, e1, e2, r, p, ow, sc, W, X, G, h => by simp [chkE] at h
  | .gin _ _ _, e1, e2, r, p, ow, sc, W, X, G, h => by simp [chkE] at h
  | .gix _ _, e1, e2, r, p, ow, sc, W, X, G, h => by simp [chkE] at h
  | .lset _ _ _, e1, e2, r, p, ow, sc, W, X, G, h => by simp [chkE, chkLs] at h
  | .lset2 _, e1, e2, r, p, ow, sc, W, X, G, h => by simp [chkE] at h
  | .dvals _ _ _, e1, e2, r, p, ow, sc, W, X, G, h => by simp [chkE, chkDv] at h
  | .mk _ _ _ _, e1, e2, r, p, ow, sc, W, X, G, h => by simp [chkE] at h
theorem da_of : ∀ (is : IEs) (es : List Expr) {ow sc : Scope} {W : WX} {X : Cx}, Good w T fuel k N ow sc W X → chkEs T N sc is es = true → DA w W X es (evEs (T.C fuel k) is)
  | .nil, es, ow, sc, W, X, G, h => by
    cases es with
    | cons _ _ => simp [chkEs] at h
    | nil => simp only [evEs]; exact da_nil
  | .cons i is, es, ow, sc, W, X, G, h => by
    cases es with
    | nil => simp [chkEs] at h
    | cons e es =>
      have hn := chkEs_star h
      simp only [chkEs, Bool.and_eq_true] at h
      simp only [evEs]
      exact da_cons (hn e List.mem_cons_self) (db_of i _ G h.1).de (da_of is _ G h.2)
theorem dk_of : ∀ (is : IEs) (kws : List Keyword) {ow sc : Scope} {W : WX} {X : Cx}, Good w T fuel k N ow sc W X → chkEs T N sc is (kws.map kwE) = true → DK w W X kws (evEs (T.C fuel k) is)
  | .nil, kws, ow, sc, W, X, G, h => by
    cases kws with
    | cons _ _ => simp [chkEs] at h
    | nil => simp only [evEs]; exact dk_nil
  | .cons i is, kws, ow, sc, W, X, G, h => by
    cases kws with
    | nil => simp [chkEs] at h
    | cons kw kws =>
      obtain ⟨n, e, kp⟩ := kw
      simp only [List.map_cons, chkEs, Bool.and_eq_true] at h
      simp only [evEs]
      exact dk_cons (db_of i _ G h.1).de (dk_of is kws G h.2)
theorem dp_of' : ∀ (ds : IDs) (ks : List (Option Expr)) (vs : List Expr) (pos : Pos) {ow sc : Scope} {W : WX} {X : Cx}, Good w T fuel k N ow sc W X → chkD T N sc ds ks vs = true → DPs w W X pos ks vs (evD (T.C fuel k) ds)
  | .nil, ks, vs, pos, ow, sc, W, X, G, h => by
    cases ks <;> cases vs <;> first | (simp [chkD] at h; done) | skip
    simp only [evD]
    exact dps_nil
  | .cons i e ds, ks, vs, pos, ow, sc, W, X, G, h => by
    cases ks with
    | nil => simp [chkD] at h
    | cons kx ks =>
      cases kx with
      | none => simp [chkD] at h
      | some kx =>
        cases vs with
        | nil => simp [chkD] at h
        | cons vx vs =>
          simp only [chkD, Bool.and_eq_true] at h
          simp only [evD]
          exact dps_cons (db_of i _ G h.1.1).de (db_of e _ G h.1.2).de (dp_of' ds ks vs pos G h.2)
theorem do_of : ∀ (o : IO) (e : Option Expr) {ow sc : Scope} {W : WX} {X : Cx}, Good w T fuel k N ow sc W X → chkO T N sc o e = true → DO w W X e (evO (T.C fuel k) o)
  | .none, e, ow, sc, W, X, G, h => by
    cases e with
    | some _ => simp [chkO] at h
    | none => simp only [evO]; exact do_none
  | .some i, e, ow, sc, W, X, G, h => by
    cases e with
    | none => simp [chkO] at h
    | some e =>
      simp only [chkO] at h
      simp only [evO]
      exact do_some (db_of i _ G h).de
theorem di_of : ∀ (i : II) (e tg : Expr) {ow sc : Scope} {W : WX} {X : Cx}, Good w T fuel k N ow sc W X → tgOk i tg = true → chkI T N sc i e = true → DI w W X tg e (evI (T.C fuel k) i)
  | .val a, e, tg, ow, sc, W, X, G, htg, h => by
    simp only [chkI] at h
    simp only [evI]
    exact di_val G (db_of a _ G h).de
  | .range1 a, e, tg, ow, sc, W, X, G, htg, h => by
    cases e <;> first | (simp [chkI] at h; done) | skip
    rename_i fe xs kw p
    cases fe <;> first | (simp [chkI] at h; done) | skip
    rcases xs with _ | ⟨x, _ | ⟨_, _⟩⟩ <;> first | (simp [chkI] at h; done) | skip
    cases kw <;> first | (simp [chkI] at h; done) | skip
    simp only [chkI, Bool.and_eq_true, decide_eq_true_eq, List.contains_eq_mem] at h
    simp only [evI]
    obtain ⟨⟨⟨h1, h2⟩, h3⟩, h4⟩ := h
    subst h1
    exact di_range1 G h2 h3 (fun y q z => by subst z; exact chkE_star h4) (db_of a _ G h4).de
  | .range2 a b, e, tg, ow, sc, W, X, G, htg, h => by
    cases e <;> first | (simp [chkI] at h; done) | skip
    rename_i fe xs kw p
    cases fe <;> first | (simp [chkI] at h; done) | skip
    rcases xs with _ | ⟨x, _ | ⟨y, _ | ⟨_, _⟩⟩⟩ <;> first | (simp [chkI] at h; done) | skip
    cases kw <;> first | (simp [chkI] at h; done) | skip
    simp only [chkI, Bool.and_eq_true, decide_eq_true_eq, List.contains_eq_mem] at h
    simp only [evI]
    obtain ⟨⟨⟨⟨h1, h2⟩, h3⟩, h4⟩, h5⟩ := h
    subst h1
    exact di_range2 G h2 h3 (fun y q z => by subst z; exact chkE_star h4) (fun y q z => by subst z; exact chkE_star h5) (db_of a _ G h4).de (db_of b _ G h5).de
  | .range3 a b c, e, tg, ow, sc, W, X, G, htg, h => by
    cases e <;> first | (simp [chkI] at h; done) | skip
    rename_i fe xs kw p
    cases fe <;> first | (simp [chkI] at h; done) | skip
    rcases xs with _ | ⟨x, _ | ⟨y, _ | ⟨z, _ | ⟨_, _⟩⟩⟩⟩ <;> first | (simp [chkI] at h; done) | skip
    cases kw <;> first | (simp [chkI] at h; done) | skip
    simp only [chkI, Bool.and_eq_true, decide_eq_true_eq, List.contains_eq_mem] at h
    simp only [evI]
    obtain ⟨⟨⟨⟨⟨h1, h2⟩, h3⟩, h4⟩, h5⟩, h6⟩ := h
    subst h1
    exact di_range3 G h2 h3 (fun y q z => by subst z; exact chkE_star h4) (fun y q z => by subst z; exact chkE_star h5) (fun y q z => by subst z; exact chkE_star h6) (db_of a _ G h4).de (db_of b _ G h5).de (db_of c _ G h6).de
  | .enum a, e, tg, ow, sc, W, X, G, htg, h => by
    cases e <;> first | (simp [chkI] at h; done) | skip
    rename_i fe xs kw p
    cases fe <;> first | (simp [chkI] at h; done) | skip
    rcases xs with _ | ⟨x, _ | ⟨_, _⟩⟩ <;> first | (simp [chkI] at h; done) | skip
    cases kw <;> first | (simp [chkI] at h; done) | skip
    cases tg <;> first | (simp [tgOk] at htg; done) | skip
    simp only [chkI, Bool.and_eq_true, decide_eq_true_eq, List.contains_eq_mem] at h
    simp only [evI]
    obtain ⟨⟨⟨h1, h2⟩, h3⟩, h4⟩ := h
    subst h1
    exact di_enum G h2 h3 (fun y q z => by subst z; exact chkE_star h4) (db_of a _ G h4).de
  | .zip st a b, e, tg, ow, sc, W, X, G, htg, h => by
    cases st with
    | false =>
      cases e <;> first | (simp [chkI] at h; done) | skip
      rename_i fe xs kw p
      cases fe <;> first | (simp [chkI] at h; done) | skip
      rcases xs with _ | ⟨x, _ | ⟨y, _ | ⟨_, _⟩⟩⟩ <;> first | (simp [chkI] at h; done) | skip
      cases kw <;> first | (simp [chkI] at h; done) | skip
      cases tg <;> first | (simp [tgOk] at htg; done) | skip
      simp only [chkI, Bool.and_eq_true, decide_eq_true_eq, List.contains_eq_mem] at h
      simp only [evI]
      obtain ⟨⟨⟨⟨h1, h2⟩, h3⟩, h4⟩, h5⟩ := h
      subst h1
      exact di_zip G h2 h3 (fun y q z => by subst z; exact chkE_star h4) (fun y q z => by subst z; exact chkE_star h5) (db_of a _ G h4).de (db_of b _ G h5).de
    | true =>
      cases e <;> first | (simp [chkI] at h; done) | skip
      rename_i fe xs kw p
      cases fe <;> first | (simp [chkI] at h; done) | skip
      rcases xs with _ | ⟨x, _ | ⟨y, _ | ⟨_, _⟩⟩⟩ <;> first | (simp [chkI] at h; done) | skip
      cases tg <;> first | (simp [tgOk] at htg; done) | skip
      simp only [chkI, Bool.and_eq_true, decide_eq_true_eq, List.contains_eq_mem] at h
      simp only [evI]
      obtain ⟨⟨⟨⟨⟨h1, h2⟩, h3⟩, hs⟩, h4⟩, h5⟩ := h
      subst h1
      exact di_zips G hs h2 h3 (fun y q z => by subst z; exact chkE_star h4) (fun y q z => by subst z; exact chkE_star h5) (db_of a _ G h4).de (db_of b _ G h5).de
end
end
end Pd

/-! Pd, part 15: statements. -/
namespace Pd
open PySem PySem.Spec L2

/-- what is wanted behind a statement -/
def PostS (w : Wd) (W : WX) (D : Ends) (ρ : List Addr) (H : Hp) (r : RS) : Prop :=
  match r with
  | .nx env S => ∀ σ' ρ' H', Ext ρ H ρ' H' → RepE w ρ' H' env σ' → RepS w ρ' H' S → D.nx σ' H'
  | .bk env S => ∀ σ' ρ' H', Ext ρ H ρ' H' → RepE w ρ' H' env σ' → RepS w ρ' H' S → D.bk σ' H'
  | .ct env S => ∀ σ' ρ' H', Ext ρ H ρ' H' → RepE w ρ' H' env σ' → RepS w ρ' H' S → D.ct σ' H'
  | .rt v S => ∀ x ρ' H', Ext ρ H ρ' H' → RepV w ρ' H' v x → RepS w ρ' H' S → D.rt x H'
  | .exc x env S => ∀ cls d σ' ρ' H', Ext ρ H ρ' H' → RepX w ρ' H' x cls d → RepE w ρ' H' env σ' → RepS w ρ' H' S → W cls d σ' H'
  | .bad => False
theorem PostS.later {w : Wd} {W : WX} {D : Ends} {ρ ρ1 : List Addr} {H H1 : Hp} {r : RS} (e : Ext ρ H ρ1 H1) (h : PostS w W D ρ H r) : PostS w W D ρ1 H1 r := by
  cases r with
  | nx env S => exact fun σ' ρ' H' e1 => h σ' ρ' H' (e.trans e1)
  | bk env S => exact fun σ' ρ' H' e1 => h σ' ρ' H' (e.trans e1)
  | ct env S => exact fun σ' ρ' H' e1 => h σ' ρ' H' (e.trans e1)
  | rt v S => exact fun x ρ' H' e1 => h x ρ' H' (e.trans e1)
  | exc x env S => exact fun c d σ' ρ' H' e1 => h c d σ' ρ' H' (e.trans e1)
  | bad => exact h
/-- an expression, then the rest -/
theorem PostS.bind {α β : Type} {w : Wd} {W : WX} {D : Ends} {σ : L2.St} {rel : List Addr → Hp → α → β → Prop} {ρ : List Addr} {H : Hp} {env : Env} {r : Res α} {f : α → Store → RS} (re : RepE w ρ H env σ) (h : PostS w W D ρ H (r.then env f)) :
    Post w W σ rel ρ H r (fun x H1 => ∃ v ρ1 S1, Ext ρ H ρ1 H1 ∧ rel ρ1 H1 v x ∧ RepS w ρ1 H1 S1 ∧ RepE w ρ1 H1 env σ ∧ PostS w W D ρ1 H1 (f v S1)) := by
  cases r with
  | ok v S1 => exact fun x ρ1 H1 e1 e2 e3 => ⟨v, ρ1, S1, e1, e2, e3, re.ext e1, PostS.later (r := f v S1) e1 h⟩
  | exc x S1 => exact fun c d ρ' H' e1 e2 e3 => h c d σ ρ' H' e1 e2 (re.ext e1) e3
  | bad => exact h
theorem PostS.nx {w : Wd} {W : WX} {D : Ends} {ρ : List Addr} {σ : L2.St} {H : Hp} {env : Env} {S : Store} (h : PostS w W D ρ H (.nx env S)) (re : RepE w ρ H env σ) (rs : RepS w ρ H S) : D.nx σ H := h σ ρ H (Ext.refl _ _) re rs
theorem PostS.ends {w : Wd} {W : WX} {D D' : Ends} {ρ : List Addr} {H : Hp} {r : RS} (h : PostS w W D ρ H r) (h1 : ∀ env S, r = .nx env S → ∀ σ' ρ' H', Ext ρ H ρ' H' → RepE w ρ' H' env σ' → RepS w ρ' H' S → D.nx σ' H' → D'.nx σ' H')
    (h2 : ∀ σ H, D.bk σ H → D'.bk σ H) (h3 : ∀ σ H, D.ct σ H → D'.ct σ H) (h4 : ∀ x H, D.rt x H → D'.rt x H) : PostS w W D' ρ H r := by
  cases r with
  | nx env S => exact fun σ' ρ' H' e1 e2 e3 => h1 env S rfl σ' ρ' H' e1 e2 e3 (h σ' ρ' H' e1 e2 e3)
  | bk env S => exact fun σ' ρ' H' e1 e2 e3 => h2 _ _ (h σ' ρ' H' e1 e2 e3)
  | ct env S => exact fun σ' ρ' H' e1 e2 e3 => h3 _ _ (h σ' ρ' H' e1 e2 e3)
  | rt v S => exact fun σ' ρ' H' e1 e2 e3 => h4 _ _ (h σ' ρ' H' e1 e2 e3)
  | exc x env S => exact h
  | bad => exact h
structure DS (w : Wd) (W : WX) (X : Cx) (st : Stmt) (m : Env → Store → RS) : Prop where
  ex : ∃ t, PS X st t ∧ ∀ ρ σ H env S D, RepE w ρ H env σ → RepS w ρ H S → PostS w W D ρ H (m env S) → t D σ H
structure DSs (w : Wd) (W : WX) (X : Cx) (sts : List Stmt) (m : Env → Store → RS) : Prop where
  ex : ∃ t, PSs X sts t ∧ ∀ ρ σ H env S D, RepE w ρ H env σ → RepS w ρ H S → PostS w W D ρ H (m env S) → t D σ H
/-- the context of a def's body -/
structure GoodS (w : Wd) (T : Tab) (fuel k : Nat) (N : List Str) (sc : Scope) (W : WX) (X : Cx) : Prop extends Good w T fuel k N sc sc W X where
  ps : PassesOwn (model X.prog X.w) X.A X.env X.xe
  kind : sc.kind = .function
  stk : X.stack = X.env :: X.outer
  frm : X.env.frame = some X.env.locals
  gx : GoodX w T X.mg

section
variable {w : Wd} {T : Tab} {fuel k : Nat} {N : List Str} {sc : Scope} {W : WX} {X : Cx}

theorem noLc {v : Expr} {t : Option Expr} {l : Nat} {env : PySem.Env} (h : isLc v = false) : swapsWith v t l env = pure false := by
  cases v <;> first | rfl | cases h
/-- a comprehension that is stored as any value -/
theorem lcStay {v : Expr} {x : Str} {px : Pos} {l : Nat} {env : PySem.Env} {i : IE} (hv : chkE T N sc i v = true) (hs : env.scope = sc) (h : lcSwap sc x px v = false) : swapsWith v (some (.Name x px)) l env = pure false := by
  have key : ∀ (b : Bool) (p : Pos) (z : Scope), (plB sc x && (px.line == p.line) && !(z.names.any fun y => y.1 == x && (y.2 == .local || y.2 == .cell))) = false →
      (b && env.kindOf x == some .local && px.line == p.line && !(z.names.any fun y => y.1 == x && (y.2 == .local || y.2 == .cell))) = false := by
    intro b p z h
    have e : (env.kindOf x == some NameKind.local) = plB sc x := by
      unfold PySem.Env.kindOf plB
      rw [hs]
      cases sc.names.lookup x with
      | none => rfl
      | some k => cases k <;> rfl
    rw [e]
    cases b
    · rfl
    · simpa using h
  cases v <;> first | rfl | skip
  · rename_i elt gs z p
    exact congrArg pure (key (env.blockKind == ScopeKind.function) p z h)
  · rename_i elt gs z p
    exfalso
    cases i <;> simp [chkE, chkLs, chkDv] at hv
  · rename_i kx vx gs z p
    exact congrArg pure (key (env.blockKind == ScopeKind.function) p z h)
theorem ds_set (G : GoodS w T fuel k N sc W X) {i : Nat} {x : Str} {e : Expr} {m : Env → M Val} {px pos : Pos} (hi : N[i]? = some x) (hx : stB sc sc x = true) (hl : ∀ l, swapsWith e (some (.Name x px)) l X.env = pure false) (h : DE w W X e m) :
    DS w W X (.Assign [.Name x px] e pos) (fun env S => (m env S).then env fun v S => .nx (envSet env i v) S) := by
  obtain ⟨t, pt, q⟩ := h.ex
  obtain ⟨h1, h2⟩ := G.hst x hx
  refine ⟨_, ps_set G.nd (by rw [G.hN]; exact hi) h1 pt (hl _) h2, fun ρ σ H env S D re rs p => ?_⟩
  refine q ρ σ H env S _ re rs ((PostS.bind re p).imp fun y H1 ⟨v, ρ1, S1, e1, r1, s1, re1, p1⟩ => ?_)
  exact p1.nx (re1.set r1 i) s1
/-- a list comprehension to a plain local, on one line -/
theorem ds_setLc (G : GoodS w T fuel k N sc W X) {i : Nat} {x : Str} {elt tg iter : Expr} {ifs : List Expr} {scope : Scope} {own : List (Str × Nat)} {px pos cpos : Pos} {t : IT} {mi : Env → M Src} {mk : Env → M Bool} {me : Env → M Val}
    (hx : N[i]? = some x) (hsw : lcSwap sc x px (.ListComp elt [⟨tg, iter, ifs, 0⟩] scope cpos) = true)
    (ok : BlkOk N sc scope own) (hi : DI w W X tg iter mi) (ht : chkT T N scope (relS scope sc) t tg = true) (ho : ∀ i ∈ slotsT t, i ∈ own.map (·.2))
    (hk : ∀ X', Good w T fuel k N scope (relS scope sc) WF X' → (ifs = [] ∧ mk = fun _ => pure true) ∨ ∃ c, ifs = [c] ∧ DT w WF X' c mk) (he : ∀ X', Good w T fuel k N scope (relS scope sc) WF X' → DE w WF X' elt me)
    (hs : ∀ x, foldedSetIterable iter X.env x = pure x) :
    DS w W X (.Assign [.Name x px] (.ListComp elt [⟨tg, iter, ifs, 0⟩] scope cpos) pos) (fun env S => (compM mi (own.map (·.2)) t mk me env S).then env fun v S => .nx (envSet env i v) S) := by
  obtain ⟨ti, pi, qi⟩ := hi.ex
  have B := fun s H C cl fp => good_blk G.toGood s H scope cl C fp
  simp only [lcSwap, Bool.and_eq_true, Bool.not_eq_true'] at hsw
  have hy := pl_of hsw.1.1
  refine ⟨_, ps_setLc (i := i) (own := own) (g := gOf w t) (tt := ttOf w WF mk) (te := tOf w WF me) G.calm G.nd (by rw [G.hN]; exact hx) (by rw [G.hsc]; exact hy) (sw_true (by rw [G.hsc]; exact G.kind) (by rw [G.hsc]; exact hy) hsw.1.2 hsw.2) pi (by rw [G.hN, G.hsc]; exact ok)
    (fun s H C cl fp => pg_of (B s H C cl fp) ht) (fun s H C cl fp => pts_of (hk _ (B s H C cl fp))) (fun s H C cl fp => (he _ (B s H C cl fp)).pe) hs, fun ρ σ H env S D re rs p => ?_⟩
  refine lc_ok ho qi re rs ((PostS.bind re p).imp fun y H1 ⟨v, ρ1, S1, e1, r1, s1, re1, p1⟩ => ?_)
  exact p1.nx (re1.set r1 i) s1
theorem noSwap {ts : List Expr} {j : Nat} {p : Pos} {v : Expr} {env : PySem.Env} (h : foldTup v = true) : swappedStores [.Tuple ts j p] v env = pure none := by
  cases v <;> first | rfl | skip
  rename_i vs j2 p2
  unfold swappedStores
  unfold foldTup at h
  dsimp only at h ⊢
  split
  · rfl
  · split
    · rfl
    · split
      · rfl
      · first | rfl | rw [if_pos h]
theorem names_few {sc : Scope} {env : PySem.Env} (hs : env.scope = sc) (line : Nat) : ∀ {ts : List Expr}, mixB sc ts = true → (ts.filterMap fun t => match t with
    | .Name id pos => if (env.kindOf id == some NameKind.local && pos.line == line) = true then some id else none
    | _ => none).length < ts.length
  | [], h => by simp [mixB] at h
  | t :: ts, h => by
    have hle : ∀ ts : List Expr, (ts.filterMap fun t => match t with
      | .Name id pos => if (env.kindOf id == some NameKind.local && pos.line == line) = true then some id else none
      | _ => none).length ≤ ts.length := fun ts => List.length_filterMap_le _ _
    unfold mixB at h
    rw [List.any_cons, Bool.or_eq_true] at h
    rw [List.filterMap_cons, List.length_cons]
    rcases h with h | h
    · have e : (match t with
        | .Name id pos => if (env.kindOf id == some NameKind.local && pos.line == line) = true then some id else none
        | _ => none) = none := by
        split
        · rename_i x p
          have h : (!plB sc x) = true := h
          have k : (env.kindOf x == some NameKind.local) = plB sc x := by
            unfold PySem.Env.kindOf plB
            rw [hs]
            cases sc.names.lookup x with
            | none => rfl
            | some k => cases k <;> rfl
          rw [k]
          rw [Bool.not_eq_true'] at h
          rw [h]
          rfl
        · rfl
      rw [e]
      have := hle ts
      exact Nat.lt_succ_of_le this
    · have ih := names_few hs line (ts := ts) h
      split
      · exact Nat.lt_succ_of_lt ih
      · rw [List.length_cons]
        exact Nat.succ_lt_succ ih
theorem noSwap2 {ts : List Expr} {j : Nat} {p : Pos} {v : Expr} {env : PySem.Env} {sc : Scope} (hs : env.scope = sc) (h : mixB sc ts = true) : swappedStores [.Tuple ts j p] v env = pure none := by
  cases v <;> first | rfl | skip
  rename_i vs j2 p2
  unfold swappedStores
  dsimp only
  split
  · rfl
  · split
    · rfl
    · rw [if_pos]
      have hl := names_few hs ((ts.head?.map (·.pos.line)).getD 0) h
      rw [Bool.or_eq_true]
      refine .inl ?_
      rw [bne_iff_ne]
      exact Nat.ne_of_lt hl
theorem ds_asg (G : GoodS w T fuel k N sc W X) {t : IT} {ts : List Expr} {j : Nat} {tp pos : Pos} {e : Expr} {m : Env → M Val} (ht : chkT T N sc sc t (.Tuple ts j tp) = true) (hw : (foldTup e || mixB sc ts) = true) (h : DE w W X e m) :
    DS w W X (.Assign [.Tuple ts j tp] e pos) (fun env S => (m env S).then env fun v S => match evT S t v env with
      | some env => .nx env S
      | none => .bad) := by
  obtain ⟨te, pt, q⟩ := h.ex
  refine ⟨_, ps_asg pt (pg_of G.toGood ht) (by unfold swapsWithSole; cases e <;> rfl) (by
    rcases Bool.or_eq_true _ _ |>.mp hw with hw | hw
    · exact noSwap hw
    · exact noSwap2 G.hsc hw), fun ρ σ H env S D re rs p => ?_⟩
  refine q ρ σ H env S _ re rs ((PostS.bind re p).imp fun y H1 ⟨v, ρ1, S1, e1, r1, s1, re1, p1⟩ => ?_)
  split at p1
  · rename_i env' he
    exact ⟨ρ1, S1, env, env', v, re1, r1, s1, he, fun σ' r' _ _ => p1.nx r' s1⟩
  · exact p1.elim
theorem swap2 {x y : Str} {px py pt p2 : Pos} {j k2 : Nat} {u v : Expr} {env : PySem.Env} (hk : env.scope.kind = .function) (hx : env.scope.names.lookup x = some .local) (hy : env.scope.names.lookup y = some .local) (hxy : x ≠ y) (hl : (px.line == py.line) = true)
    (h1 : [u, v].all (foldedForSure 8) = false) (h2 : [u, v].all (constantsAlone 8) = false) (su : ∀ x p, u ≠ .Starred x p) (sv : ∀ x p, v ≠ .Starred x p) :
    swappedStores [.Tuple [.Name x px, .Name y py] j pt] (.Tuple [u, v] k2 p2) env = pure (some [x, y]) := by
  have hb : env.blockKind = .function := by unfold PySem.Env.blockKind; rw [hk]; rfl
  have kx : (env.kindOf x == some .local) = true := by unfold PySem.Env.kindOf; rw [hx]; rfl
  have ky : (env.kindOf y == some .local) = true := by unfold PySem.Env.kindOf; rw [hy]; rfl
  have hl' : py.line = px.line := (eq_of_beq hl).symm
  have hn : [x, y].eraseDups.length = 2 := by
    have : (y == x) = false := by simpa using fun z => hxy z.symm
    simp [List.eraseDups_cons, this]
  unfold swappedStores
  simp only [hb, h1, h2]
  simp [kx, ky, Expr.pos, hl', hn, List.filterMap]
theorem ds_par (G : GoodS w T fuel k N sc W X) {i j : Nat} {x y : Str} {u v : Expr} {mu mv : Env → M Val} {px py pt p2 pos : Pos} {kt k2 : Nat} (hi : N[i]? = some x) (hj : N[j]? = some y) (hij : i ≠ j) (hxy : x ≠ y) (hx : plB sc x = true) (hy : plB sc y = true) (hl : (px.line == py.line) = true)
    (h1 : [u, v].all (foldedForSure 8) = false) (h2 : [u, v].all (constantsAlone 8) = false) (su : ∀ x p, u ≠ .Starred x p) (sv : ∀ x p, v ≠ .Starred x p) (hu : DE w W X u mu) (hv : DE w W X v mv) :
    DS w W X (.Assign [.Tuple [.Name x px, .Name y py] kt pt] (.Tuple [u, v] k2 p2) pos) (fun env S => (mu env S).then env fun a S => (mv env S).then env fun b S => .nx (envSet (envSet env i a) j b) S) := by
  obtain ⟨tu, pu, qu⟩ := hu.ex
  obtain ⟨tv, pv, qv⟩ := hv.ex
  have lx := pl_of hx
  have ly := pl_of hy
  refine ⟨_, ps_par (i := i) (j := j) G.calm G.nd (by rw [G.hN]; exact hi) (by rw [G.hN]; exact hj) hij (by rw [G.hsc]; exact lx) (by rw [G.hsc]; exact ly) (pa_cons pu (pa_cons pv pa_nil (star_cons sv)) (star_cons su))
    (swap2 (by rw [G.hsc]; exact G.kind) (by rw [G.hsc]; exact lx) (by rw [G.hsc]; exact ly) hxy hl h1 h2 su sv), fun ρ σ H env S D re rs p => ?_⟩
  refine qu ρ σ H env S _ re rs ((PostS.bind re p).imp fun a H1 ⟨va, ρ1, S1, e1, r1, s1, re1, p1⟩ => ?_)
  refine qv ρ1 σ H1 env S1 _ re1 s1 ((PostS.bind re1 p1).imp fun b H2 ⟨vb, ρ2, S2, e2, r2, s2, re2, p2⟩ => ?_)
  exact ⟨a, b, rfl, p2.nx ((re2.set (r1.ext e2) i).set r2 j) s2⟩
end
end Pd

/-! Pd, part 16: statements, further. -/
namespace Pd
open PySem PySem.Spec L2

section
variable {w : Wd} {T : Tab} {fuel k : Nat} {N : List Str} {sc : Scope} {W : WX} {X : Cx}
/-- o[i] = v: a list's place, a dict's key -/
def rSetA : TSet := fun o i v H Q => rSetL o i v H Q ∨ ∃ a H', o = .ref a ∧ DPut H a i v H' ∧ Q H'
theorem set_all (hu : X.A.units + 1 < cLine) : PSet X rSetA := by
  intro pins s σ H o i v ov iv u Q I ro ri rv h
  rcases h with h | ⟨a, H', rfl, g, q⟩
  · exact set_list pins s σ H o i v ov iv u Q I ro ri rv h
  · cases ro
    exact d_setItem hu I g ri rv fun s' I' => ⟨H', I', q⟩
theorem set_ok {ρ : List Addr} {σ : L2.St} {H : Hp} {S : Store} {o i v : Val} {x y z : V} {Q : Unit → Hp → Prop} (r1 : RepV w ρ H o x) (r2 : RepV w ρ H i y) (r3 : RepV w ρ H v z) (rs : RepS w ρ H S) (p : Post w W σ (fun _ _ _ _ => True) ρ H (setV o i v S) Q) : rSetA x y z H (Q ()) := by
  unfold setV at p
  cases o <;> dsimp only at p <;> first | exact p.elim | skip
  rename_i d
  simp only [RepV] at r1
  obtain ⟨a, rfl, ha⟩ := r1
  split at p
  · rename_i xs e
    obtain ⟨vs, h1, h2⟩ := lst_at rs ha e
    cases i <;> dsimp only at p <;> first | exact p.elim | skip
    rename_i n
    simp only [RepV] at r2
    subst r2
    split at p
    · rename_i j hj
      refine .inl ⟨a, vs, n, j, rfl, rfl, h1, by rw [h2.length]; exact hj, ?_⟩
      have E : Ext ρ H ρ (upd H a (.lst (vs.set j z))) := Ext.set ha
      exact p () _ _ E True.intro (rs.set ha ⟨_, rfl, (RepVs.set r3 j h2).ext E⟩)
    · exact p.elim
  · rename_i kvs e
    obtain ⟨vs, h1, h2⟩ := dct_at rs ha e
    split at p
    · rename_i q hq
      have ey := key_kV hq r2
      subst ey
      split at p
      · rename_i hz
        have hl : vs.length < sizeLine := by rw [h2.length, ← size_eq]; exact hz
        refine .inr ⟨a, _, rfl, DPut.k h1 hl, ?_⟩
        have E : Ext ρ H ρ (upd H a (.dK (putK vs q z))) := Ext.set ha
        exact p () _ _ E True.intro (rs.set ha ⟨_, rfl, (h2.put r3).ext E⟩)
      · exact p.elim
    · exact p.elim
  · exact p.elim
theorem ds_idx (G : GoodS w T fuel k N sc W X) {o i e : Expr} {mo mi me : Env → M Val} {tp pos : Pos} (hs : ∀ l u st p, i ≠ .Slice l u st p) (hl : isLc e = false) (ho : DE w W X o mo) (hi : DE w W X i mi) (he : DE w W X e me) :
    DS w W X (.Assign [.Subscript o i tp] e pos) (fun env S => (me env S).then env fun v S => (mo env S).then env fun x S => (mi env S).then env fun y S => (setV x y v S).then env fun _ S => .nx env S) := by
  obtain ⟨to, po, qo⟩ := ho.ex
  obtain ⟨ti, pi, qi⟩ := hi.ex
  obtain ⟨te, pe, qe⟩ := he.ex
  have hrel : ∀ v, assign (.Subscript o i tp) X.env v = (do
      let ov ← holding [v] (eval o X.env)
      let iv ← holding [v, ov] (eval i X.env)
      standAt tp
      holding [v, ov, iv] (setItem ov iv v)
      release [v, ov, iv] []) := by
    intro v
    cases i <;> first | rfl | exact absurd rfl (hs _ _ _ _)
  refine ⟨_, ps_asg pe (pg_sub po pi (set_all (hu_of G.room)) hrel) (by unfold swapsWithSole; exact noLc hl) (by rfl), fun ρ σ H env S D re rs p => ?_⟩
  refine qe ρ σ H env S _ re rs ((PostS.bind re p).imp fun z H1 ⟨v, ρ1, S1, e1, r1, s1, re1, p1⟩ => ?_)
  refine qo ρ1 σ H1 env S1 _ re1 s1 ((PostS.bind re1 p1).imp fun x H2 ⟨u, ρ2, S2, e2, r2, s2, re2, p2⟩ => ?_)
  refine qi ρ2 σ H2 env S2 _ re2 s2 ((PostS.bind re2 p2).imp fun y H3 ⟨q, ρ3, S3, e3, r3, s3, re3, p3⟩ => ?_)
  refine set_ok (W := W) (σ := σ) (Q := fun _ H4 => D.nx σ H4) (r2.ext e3) r3 (r1.ext (e2.trans e3)) s3 ((PostS.bind re3 p3).imp fun _ H4 ⟨_, ρ4, S4, e4, _, s4, re4, p4⟩ => ?_)
  exact p4.nx re4 s4
def rAug : Bop → TIp
  | .add => ipI fun i j => i + j
  | .sub => ipI fun i j => i - j
  | _ => fun _ _ _ _ => False
theorem ip_all {op : Bop} {o : Operator} (h : opB op o = true) : PIp X o (rAug op) := by
  cases op <;> cases o <;> first | (cases h; done) | exact ip_add | exact ip_sub | (intro _ _ _ _ _ _ _ _ _ _ _ _ z; exact z.elim)
theorem ds_aug (G : GoodS w T fuel k N sc W X) {i : Nat} {x : Str} {e : Expr} {m : Env → M Val} {op : Bop} {o : Operator} {px pos : Pos} (ho : opB op o = true) (hi : N[i]? = some x) (hx : stB sc sc x = true) (h : DE w W X e m) :
    DS w W X (.AugAssign (.Name x px) o e pos) (fun env S => match envGet env i with
      | none => .bad
      | some x => (m env S).then env fun y S => (augV op x y S).then env fun v S => .nx (envSet env i v) S) := by
  obtain ⟨t, pt, q⟩ := h.ex
  obtain ⟨h1, h2⟩ := G.hst x hx
  refine ⟨_, ps_aug G.nd (by rw [G.hN]; exact hi) h1 pt (ip_all ho) h2, fun ρ σ H env S D re rs p => ?_⟩
  cases eg : envGet env i with
  | none => rw [eg] at p; exact p.elim
  | some v =>
    rw [eg] at p
    obtain ⟨z, e1, e2⟩ := re.get eg
    refine ⟨z, e1, ?_⟩
    refine q ρ σ H env S _ re rs ((PostS.bind re p).imp fun y H1 ⟨u, ρ1, S1, x1, r1, s1, re1, p1⟩ => ?_)
    have rz := e2.ext x1
    unfold augV at p1
    split at p1
    · simp only [RepV] at rz r1
      exact ⟨_, _, rz, r1, PostS.nx p1 (re1.set (by simp [RepV]) i) s1⟩
    · simp only [RepV] at rz r1
      exact ⟨_, _, rz, r1, PostS.nx p1 (re1.set (by simp [RepV]) i) s1⟩
    · exact p1.elim
theorem ds_ex (G : GoodS w T fuel k N sc W X) {e : Expr} {m : Env → M Val} {pos : Pos} (hl : isLc e = false) (h : DE w W X e m) : DS w W X (.Expr e pos) (fun env S => (m env S).then env fun _ S => .nx env S) := by
  obtain ⟨t, pt, q⟩ := h.ex
  refine ⟨_, ps_expr pt (noLc hl), fun ρ σ H env S D re rs p => ?_⟩
  exact q ρ σ H env S _ re rs ((PostS.bind re p).imp fun y H1 ⟨v, ρ1, S1, e1, r1, s1, re1, p1⟩ => p1.nx re1 s1)
theorem ds_ret {e : Expr} {m : Env → M Val} {pos : Pos} (h : DE w W X e m) : DS w W X (.Return (some e) pos) (fun env S => (m env S).then env fun v S => .rt v S) := by
  obtain ⟨t, pt, q⟩ := h.ex
  refine ⟨_, ps_ret pt, fun ρ σ H env S D re rs p => ?_⟩
  exact q ρ σ H env S _ re rs ((PostS.bind re p).imp fun y H1 ⟨v, ρ1, S1, e1, r1, s1, re1, p1⟩ => p1 y ρ1 H1 (Ext.refl _ _) r1 s1)
theorem ds_retN {pos : Pos} : DS w W X (.Return none pos) (fun env S => .rt .non S) :=
  ⟨_, ps_retN, fun ρ σ H env S D re rs p => p .non ρ H (Ext.refl _ _) (by simp [RepV]) rs⟩
theorem ds_pass {pos : Pos} : DS w W X (.Pass pos) (fun env S => .nx env S) := ⟨_, ps_pass, fun ρ σ H env S D re rs p => p.nx re rs⟩
theorem ds_brk {pos : Pos} : DS w W X (.Break pos) (fun env S => .bk env S) := ⟨_, ps_break, fun ρ σ H env S D re rs p => p σ ρ H (Ext.refl _ _) re rs⟩
theorem ds_cont {pos : Pos} : DS w W X (.Continue pos) (fun env S => .ct env S) := ⟨_, ps_continue, fun ρ σ H env S D re rs p => p σ ρ H (Ext.refl _ _) re rs⟩
theorem then_then {α β : Type} (m : Res α) (g : α → M β) (env : Env) (f : β → Store → RS) : (m.then env fun v S => (g v S).then env f) = (match m with | .ok a S => g a S | .exc x S => .exc x S | .bad => .bad : Res β).then env f := by
  cases m <;> rfl
theorem ds_ife {c : Expr} {a b : List Stmt} {mc : Env → M Val} {ma mb : Env → Store → RS} {pos : Pos} (hc : DT w W X c (fun env => mc env >>= truthM)) (ha : DSs w W X a ma) (hb : DSs w W X b mb) :
    DS w W X (.If c a b pos) (fun env S => (mc env S).then env fun v S => (truthM v S).then env fun t S => if t then ma env S else mb env S) := by
  obtain ⟨tc, pc, qc⟩ := hc.ex
  obtain ⟨ta, pa, qa⟩ := ha.ex
  obtain ⟨tb, pb, qb⟩ := hb.ex
  refine ⟨_, ps_if pc pa pb, fun ρ σ H env S D re rs p => ?_⟩
  rw [then_then] at p
  refine qc ρ σ H env S _ re rs ((PostS.bind (rel := fun _ _ a b => a = b) re p).imp fun t H1 ⟨v, ρ1, S1, e1, r1, s1, re1, p1⟩ => ?_)
  subst r1
  cases v with
  | true => exact qa ρ1 σ H1 env S1 D re1 s1 p1
  | false => exact qb ρ1 σ H1 env S1 D re1 s1 p1
theorem dss_nil : DSs w W X [] (fun env S => .nx env S) := ⟨_, pss_nil, fun ρ σ H env S D re rs p => p.nx re rs⟩
theorem dss_cons {st : Stmt} {sts : List Stmt} {m ms : Env → Store → RS} (h : DS w W X st m) (hs : DSs w W X sts ms) : DSs w W X (st :: sts) (fun env S => (m env S).seq ms) := by
  obtain ⟨t, pt, q⟩ := h.ex
  obtain ⟨ts, pts, qs⟩ := hs.ex
  refine ⟨_, pss_cons pt pts, fun ρ σ H env S D re rs p => ?_⟩
  refine q ρ σ H env S _ re rs ?_
  cases e : m env S with
  | nx env1 S1 =>
    rw [e] at p
    exact fun σ' ρ' H' e1 e2 e3 => qs ρ' σ' H' env1 S1 D e2 e3 (PostS.later e1 p)
  | bk env1 S1 => rw [e] at p; exact p
  | ct env1 S1 => rw [e] at p; exact p
  | rt v S1 => rw [e] at p; exact p
  | exc x env1 S1 => rw [e] at p; exact p
  | bad => rw [e] at p; exact p
end
end Pd

/-! Pd: fields of an own class's instances, read and set. -/
namespace Pd
open PySem PySem.Spec L2
section
variable {X : Cx}
theorem pg_fld {o : Expr} {f : Str} {pos : Pos} {ta : TE} (ho : PE X o ta) : PG X (.Attribute o f pos) (fun v σ H Q => ta σ H fun x H2 => ∃ a C dx fs, x = .ref a ∧ H2 a = some (.ins C dx fs) ∧ Cls X.K C ∧ NoAttr X.K C f ∧ fs.length < 1000 ∧ Q σ (upd H2 a (.ins C dx (putF f v fs)))) := by
  refine ⟨fun pins s σ H v u Q I r h => ?_⟩
  have ha : assign (.Attribute o f pos) X.env u = (do
      let ov ← holding [u] (eval o X.env)
      standAt pos.atName
      holding [u, ov] (setAttr ov f u)
      release [u, ov] []) := by
    show PySem.assign _ _ _ = _
    unfold PySem.assign
    rfl
  rw [ha]
  refine wpAny_bind (wpAny_holding (thn (ho.run pins s σ H _ I h) fun ov s1 ⟨x, H1, I1, r1, a, C, dx, fs, ex, ea, c, n, l, q⟩ => ?_))
  subst ex
  obtain rfl : ov = Value.ref a := r1
  exact wpAny_bind (wpAny_standAt (wpAny_bind (wpAny_holding (setattr_ok I1 ea c n l r fun s2 I2 => wpAny_release ⟨σ, _, I2, q⟩))))
end
section
variable {w : Wd} {T : Tab} {fuel k : Nat} {N : List Str} {ow sc : Scope} {W : WX} {X : Cx}
theorem RepKV.putN {ρ : List Addr} {H : Hp} {f : Str} {x : Val} {y : V} (r : RepV w ρ H x y) : ∀ {fs : List (Str × Val)} {vs : List (Str × V)}, RepKV w ρ H fs vs → RepKV w ρ H (putN f x fs) (putF f y vs)
  | [], vs, h => by
    simp only [RepKV] at h
    subst h
    exact ⟨y, [], rfl, r, rfl⟩
  | (g, u) :: fs, vs, h => by
    simp only [RepKV] at h
    obtain ⟨v, l, rfl, h1, h2⟩ := h
    show RepKV w ρ H (if g = f then (g, x) :: fs else (g, u) :: Pd.putN f x fs) (if g = f then (g, y) :: l else (g, v) :: putF f y l)
    by_cases c : g = f
    · rw [if_pos c, if_pos c]
      exact ⟨y, l, rfl, r, h2⟩
    · rw [if_neg c, if_neg c]
      exact ⟨v, _, rfl, h1, RepKV.putN r h2⟩
theorem repKV_len {κ : Type} {ρ : List Addr} {H : Hp} : ∀ {fs : List (κ × Val)} {vs : List (κ × V)}, RepKV w ρ H fs vs → vs.length = fs.length
  | [], vs, h => by simp only [RepKV] at h; subst h; rfl
  | (_, _) :: fs, vs, h => by
    simp only [RepKV] at h
    obtain ⟨v, l, rfl, _, h2⟩ := h
    rw [List.length_cons, List.length_cons, repKV_len h2]
theorem setF_ok (G : GoodS w T fuel k N sc W X) {D : Ends} {ρ : List Addr} {H : Hp} {env : Env} {S : Store} {u v : Val} {x y : V} {f : Str} {g : Store → RS} (ru : RepV w ρ H u x) (rv : RepV w ρ H v y) (rs : RepS w ρ H S) (p : PostS w W D ρ H ((setF T.cnames u f v S).then env fun _ S => g S)) :
    ∃ a C dx fs, x = .ref a ∧ H a = some (.ins C dx fs) ∧ Cls X.K C ∧ NoAttr X.K C f ∧ fs.length < 1000 ∧ ∃ S', Ext ρ H ρ (upd H a (.ins C dx (putF f y fs))) ∧ RepS w ρ (upd H a (.ins C dx (putF f y fs))) S' ∧ PostS w W D ρ (upd H a (.ins C dx (putF f y fs))) (g S') := by
  unfold setF at p
  split at p
  · rename_i d
    simp only [RepV] at ru
    obtain ⟨a, rfl, ha⟩ := ru
    split at p
    · rename_i c fs hs
      obtain ⟨o, h1, C, dx, ns, vs, rfl, h3, h4⟩ := rs.cell d a _ ha hs
      split at p
      · rename_i hz
        simp only [Bool.and_eq_true, decide_eq_true_eq, List.contains_iff_mem] at hz
        obtain ⟨n1, n2⟩ := G.ca.nm c C ns h3
        have E : Ext ρ H ρ (upd H a (.ins C dx (putF f y vs))) := Ext.set ha
        refine ⟨a, C, dx, vs, rfl, h1, by rw [G.hK]; exact (G.cls c C ns h3).cl, by rw [G.hK]; exact n2 f (by rw [← n1]; simpa using hz.2), by rw [repKV_len h4]; exact hz.1, _, E, rs.set (c := .obj c (putN f v fs)) ha (show RepC w ρ _ (.obj c (putN f v fs)) _ from ⟨C, dx, ns, _, rfl, h3, (h4.putN rv).ext E⟩), PostS.later E p⟩
      · exact p.elim
    · exact p.elim
  · exact p.elim
theorem ds_fld (G : GoodS w T fuel k N sc W X) {o e : Expr} {f : Str} {mo me : Env → M Val} {p' pos : Pos} (hl : isLc e = false) (ho : DE w W X o mo) (he : DE w W X e me) :
    DS w W X (.Assign [.Attribute o f p'] e pos) (fun env S => (me env S).then env fun v S => (mo env S).then env fun x S => (setF T.cnames x f v S).then env fun _ S => .nx env S) := by
  obtain ⟨to, po, qo⟩ := ho.ex
  obtain ⟨te, pe, qe⟩ := he.ex
  refine ⟨_, ps_fld po pe (noLc hl), fun ρ σ H env S D re rs p => ?_⟩
  refine qe ρ σ H env S _ re rs ((PostS.bind re p).imp fun z H1 ⟨v, ρ1, S1, e1, r1, s1, re1, p1⟩ => ?_)
  refine qo ρ1 σ H1 env S1 _ re1 s1 ((PostS.bind re1 p1).imp fun x H2 ⟨u, ρ2, S2, e2, r2, s2, re2, p2⟩ => ?_)
  obtain ⟨a, C, dx, fs, h1, h2, h3, h4, h5, S', E, s3, p3⟩ := setF_ok G r2 (r1.ext e2) s2 p2
  exact ⟨a, C, dx, fs, h1, h2, h3, h4, h5, p3.nx (re2.ext E) s3⟩
theorem ds_fld2 (G : GoodS w T fuel k N sc W X) {o1 o2 e : Expr} {f g : Str} {mo me : Env → M Val} {p1 p2 tp pos : Pos} {j : Nat} (hl : isLc e = false) (hw : foldTup e = true) (ho1 : DE w W X o1 mo) (ho2 : DE w W X o2 mo) (he : DE w W X e me) :
    DS w W X (.Assign [.Tuple [.Attribute o1 f p1, .Attribute o2 g p2] j tp] e pos) (fun env S => (me env S).then env fun v S => match v with
      | .tup [y, z] => (mo env S).then env fun x S => (setF T.cnames x f y S).then env fun _ S => (mo env S).then env fun x S => (setF T.cnames x g z S).then env fun _ S => .nx env S
      | _ => .bad) := by
  obtain ⟨t1, po1, q1⟩ := ho1.ex
  obtain ⟨t2, po2, q2⟩ := ho2.ex
  obtain ⟨te, pe, qe⟩ := he.ex
  refine ⟨_, ps_asg pe (pg_tup (n := 2) G.calm (pgs_cons (pg_fld po1) (pgs_cons (pg_fld po2) pgs_nil)) (by rfl) (by rfl)) (by unfold swapsWithSole; exact noLc hl) (noSwap hw) (by rfl), fun ρ σ H env S D re rs p => ?_⟩
  refine qe ρ σ H env S _ re rs ((PostS.bind re p).imp fun x0 H1 ⟨v, ρ1, S1, e1, r1, s1, re1, pp⟩ => ?_)
  split at pp
  · rename_i y z
    simp only [RepV] at r1
    obtain ⟨a, vs, rfl, a1, a2⟩ := r1
    simp only [RepVs] at a2
    obtain ⟨y1, r, rfl, b1, z1, r', rfl, b2, rfl⟩ := a2
    rw [G.hK]
    refine ⟨a, [y1, z1], rfl, a1.sq, rfl, y1, [z1], rfl, ?_⟩
    refine q1 ρ1 σ H1 env S1 _ re1 s1 ((PostS.bind re1 pp).imp fun x H2 ⟨u, ρ2, S2, e2, r2, s2, re2, pq⟩ => ?_)
    obtain ⟨a3, C, dx, fs, h1, h2, h3, h4, h5, S', E, s3, p3⟩ := setF_ok G r2 (b1.ext e2) s2 pq
    rw [G.hK] at h3 h4
    refine ⟨a3, C, dx, fs, h1, h2, h3, h4, h5, z1, [], rfl, ?_⟩
    have re3 := re2.ext E
    refine q2 ρ2 σ _ env S' _ re3 s3 ((PostS.bind re3 p3).imp fun x' H3 ⟨u', ρ3, S3, e3, r3, s3', re3', pr⟩ => ?_)
    obtain ⟨a4, C', dx', fs', i1, i2, i3, i4, i5, S4, E4, s5, p5⟩ := setF_ok G r3 (((b2.ext e2).ext E).ext e3) s3' pr
    rw [G.hK] at i3 i4
    exact ⟨a4, C', dx', fs', i1, i2, i3, i4, i5, rfl, p5.nx (re3'.ext E4) s5⟩
  · exact pp.elim
end
end Pd

/-! Pd: first, *middle, last = a tuple; three stores at once. -/
namespace Pd
open PySem PySem.Spec L2

section
variable {prog : Program} {w : World} {A : Around} {E : Value → Shared → Prop} {s : Shared}
theorem star_items {l : Addr} {items : Array Value} {n i : Nat} {Q : List Value → Shared → Prop} (hl : PyProof.Rows.IsTup s.heap l items) (hh : A.handled = none) (hi : i < n) (hn : n ≤ items.size + 1) (hz : items.size ≤ 16384)
    (h : ∀ (h1 : Heap) (tk : Nat), (∀ b o, s.heap.get? b = some o → h1.get? b = some o) →
      Q (items.toList.take i ++ [.ref h1.objs.size] ++ (items.toList.drop i).drop (items.size + 1 - n)) { s with heap := h1.push { cls := .type "list", data := .seq ((items.toList.drop i).take (items.size + 1 - n)).toArray }, toks := tk }) :
    wpAny (model prog w) A (unpackItems (.ref l) n (some i)) Q E s := by
  obtain ⟨ol0, hol0, _⟩ := id hl
  have hlt : l ≠ s.heap.objs.size := Nat.ne_of_lt (Heap.lt_size hol0)
  have hrl : (items.toList.drop i).length = items.size - i := by rw [List.length_drop, Array.length_toList]
  have hfl : (items.toList.take i).length = i := by rw [List.length_take, Array.length_toList]; omega
  unfold unpackItems
  refine wpAny_bind ?_
  unfold notIterableAtAll
  refine wpAny_bind (wpAny_specialOf hl.typeIs PyProof.Rows.slot_tuple_iter.lookup (wpAny_pure ?_))
  simp only [Bool.false_eq_true, if_false]
  refine wpAny_bind (wpAny_holding (PyProof.Rows.iter_tuple hl ?_))
  refine wpAny_bind (wpAny_holding (PyProof.Rows.draw_tuple hlt i 0 _ _ ⟨_, Heap.get?_push_size _ rfl, rfl, rfl⟩ (hl.push _) (by omega) fun h1 hit1 sb1 => ?_))
  have hl1 : PyProof.Rows.IsTup h1 l items := (hl.push _).extBut sb1.extBut hlt
  rw [Nat.zero_add] at hit1
  obtain ⟨oi, hoi, _⟩ := id hit1
  obtain ⟨ol, hol, _⟩ := id hl1
  rw [List.drop_zero, if_neg (by rw [hfl]; omega)]
  refine wpAny_bind (wpAny_holding (PySem.W.kun_collect (s := { s with heap := h1 }) (T := "tuple_iterator") (.inr (.inr (.inr rfl))) (Walks.tuple (A := A.in1) hh s.heap.objs.size l hlt items) (fun j u st => st.1.typeIs) (k := i) (by omega) ⟨hit1, hl1⟩ (Heap.lt_size hoi) (Heap.lt_size hol) (fun h2 tk hk => ?_) (by rw [sizeLine_eq]; omega)))
  have hmid : (items.toList.drop i).length - (n - 1 - i) = items.size + 1 - n := by rw [hrl]; omega
  show wpAny _ _ (if (items.toList.drop i).length < n - 1 - i then _ else _) _ _ _
  rw [if_neg (by rw [hrl]; omega)]
  show wpAny _ _ (newList ((items.toList.drop i).take ((items.toList.drop i).length - (n - 1 - i))) >>= fun d => pure (items.toList.take i ++ [d] ++ (items.toList.drop i).drop ((items.toList.drop i).length - (n - 1 - i)))) _ _ _
  rw [hmid]
  refine wpAny_bind (wpAny_newObj_type (wpAny_pure (h h2 tk fun b o e => hk b o (Nat.ne_of_lt (Heap.lt_size e)) (sb1.extBut b o (Nat.ne_of_lt (Heap.lt_size e)) (Heap.get?_push_of_some _ e)))) ?_)
  show ((items.toList.drop i).take (items.size + 1 - n)).toArray.size ≤ sizeLine
  rw [List.size_toArray, List.length_take, hrl, sizeLine_eq]
  omega
end

/-- a starred name among the targets -/
def gStar (K : PySem.W.Frag) (n i : Nat) (t : TGs) : TG := fun v σ H Q => ∃ a xs, v = .ref a ∧ SqT K H a xs ∧ n ≤ xs.length + 1 ∧ xs.length ≤ 16384 ∧
  ∀ D, H D = none → t (xs.take i ++ [.ref D] ++ (xs.drop i).drop (xs.length + 1 - n)) σ (upd H D (.lst ((xs.drop i).take (xs.length + 1 - n)))) Q
theorem pg_star {X : Cx} {es : List Expr} {k : Nat} {pos : Pos} {t : TGs} {n i : Nat} (hc : X.calm = true) (hi : i < n) (h : ∀ (pins : List (Addr × Obj)) (s : Shared) (σ : L2.St) (H : Hp) (vs : List V) (us : List Value) (Q : L2.St → Hp → Prop), Inv X pins σ H s → Vals vs us → t vs σ H Q →
      wpAny (model X.prog X.w) X.A (assignInOrder ((assignEach es X.env).map (·.2)) us) (fun _ s' => ∃ σ' H', Inv X pins σ' H' s' ∧ Q σ' H') X.xe s)
    (hn : (assignEach es X.env).length = n) (hst : (assignEach es X.env).findIdx? (·.1) = some i) : PG X (.Tuple es k pos) (gStar X.K n i t) := by
  refine ⟨fun pins s σ H v u Q I r hw => ?_⟩
  obtain ⟨a, xs, rfl, hq, h1, h2, q⟩ := hw
  cases r
  obtain ⟨its, rv, ht, hz⟩ := I.tuple hq
  have hlen : its.toArray.size = xs.length := by rw [List.size_toArray]; exact rv.length.symm
  rw [PyProof.Rows.assign_Tuple]
  refine wpAny_bind (wpAny_standAt ?_)
  unfold unpack
  rw [hn, hst]
  refine wpAny_bind (wpAny_holding (star_items ht (I.ok.hd hc) hi (by rw [hlen]; exact h1) (by rw [hlen]; exact h2) fun h1 tk hk => ?_))
  rw [hlen]
  have I1 : Inv X pins σ H { s with heap := h1, toks := tk } := I.kept hk
  have hD := I1.hok.fresh (Nat.le_refl h1.objs.size)
  have I2 := I1.laid (a := h1.objs.size) (o := .lst ((xs.drop i).take (xs.length + 1 - n))) (h' := h1.push { cls := .type "list", data := .seq ((its.toArray.toList.drop i).take (xs.length + 1 - n)).toArray }) (t' := tk) (fun b o e => Heap.get?_push_of_some _ e) (Nat.le_refl _)
    ⟨by rw [List.length_take, List.length_drop, sizeLine_eq]; omega, (its.drop i).take (xs.length + 1 - n), 0, (rv.drop i).take _, Heap.get?_push_size _ rfl⟩
  refine h pins _ σ _ _ _ Q I2 ?_ (q _ hD)
  have one : Vals [V.ref h1.objs.size] [Value.ref h1.objs.size] := .cons (show RelV (V.ref h1.objs.size) (Value.ref h1.objs.size) from rfl) .nil
  have all := ((rv.take i).append one).append ((rv.drop i).drop (xs.length + 1 - n))
  simpa using all
section
variable {w : Wd} {T : Tab} {fuel k : Nat} {N : List Str} {sc : Scope} {W : WX} {X : Cx}
/-- the stores of a list with one star: as without it -/
theorem each_star {env : PySem.Env} {x : Str} {px p : Pos} {post : List Expr} : ∀ {pre : List Expr}, NoStar pre →
    (assignEach (pre ++ .Starred (.Name x px) p :: post) env).map (·.2) = (assignEach (pre ++ .Name x px :: post) env).map (·.2) ∧
      (assignEach (pre ++ .Starred (.Name x px) p :: post) env).length = (pre ++ .Name x px :: post).length ∧ (assignEach (pre ++ .Starred (.Name x px) p :: post) env).findIdx? (·.1) = some pre.length
  | [], _ => by
    refine ⟨rfl, ?_, ?_⟩
    · show (assignEach post env).length + 1 = post.length + 1
      have : ∀ l : List Expr, (assignEach l env).length = l.length := by
        intro l
        induction l with
        | nil => rfl
        | cons e l ih => cases e <;> (show (assignEach l env).length + 1 = _; rw [ih]; rfl)
      rw [this]
    · show ((true, _) :: assignEach post env).findIdx? (·.1) = _
      rw [List.findIdx?_cons]
      rfl
  | e :: pre, h => by
    obtain ⟨h1, h2, h3⟩ := each_star (env := env) (x := x) (px := px) (p := p) (post := post) (pre := pre) fun z hz => h z (List.mem_cons_of_mem _ hz)
    have hs := h e List.mem_cons_self
    have key : ∀ l, assignEach (e :: l) env = (false, assign e env) :: assignEach l env := by
      intro l
      cases e <;> first | rfl | exact absurd rfl (hs _ _)
    refine ⟨?_, ?_, ?_⟩
    · show (assignEach (e :: (pre ++ _)) env).map (·.2) = (assignEach (e :: (pre ++ _)) env).map (·.2)
      rw [key, key, List.map_cons, List.map_cons, h1]
    · show (assignEach (e :: (pre ++ _)) env).length = _
      rw [key, List.length_cons, h2]
      rfl
    · show (assignEach (e :: (pre ++ _)) env).findIdx? (·.1) = _
      rw [key, List.findIdx?_cons, h3]
      rfl
theorem chkTs_len : ∀ {ts : ITs} {es : List Expr}, chkTs T N sc sc ts es = true → es.length = lenTs ts
  | .nil, [], _ => rfl
  | .nil, _ :: _, h => by simp [chkTs] at h
  | .cons _ _, [], h => by simp [chkTs] at h
  | .cons t ts, e :: es, h => by
    simp only [chkTs, Bool.and_eq_true] at h
    simp [lenTs, chkTs_len h.2]
theorem ds_star (G : GoodS w T fuel k N sc W X) {ts : ITs} {i : Nat} {pre post : List Expr} {x : Str} {px p : Pos} {j : Nat} {tp pos : Pos} {e : Expr} {m : Env → M Val} (hpi : pre.length = i) (ht : chkTs T N sc sc ts (pre ++ .Name x px :: post) = true) (hl : isLc e = false) (hw : foldTup e = true) (h : DE w W X e m) :
    DS w W X (.Assign [.Tuple (pre ++ .Starred (.Name x px) p :: post) j tp] e pos) (fun env S => (m env S).then env fun v S => match starV S v (lenTs ts) i with
      | some (xs, ms) => match evTs (S ++ [.lst ms]) ts xs env with
        | some env => .nx env (S ++ [.lst ms])
        | none => .bad
      | none => .bad) := by
  obtain ⟨te, pt, q⟩ := h.ex
  obtain ⟨g, pg, qg⟩ := (dgs_of G.toGood ts _ ht).ex
  have hn : NoStar pre := fun z hz => chkTs_star ht z (List.mem_append_left _ hz)
  obtain ⟨h1, h2, h3⟩ := each_star (env := X.env) (x := x) (px := px) (p := p) (post := post) hn
  have hlen := chkTs_len ht
  have hi : i < lenTs ts := by
    rw [← hlen, ← hpi, List.length_append, List.length_cons]
    omega
  refine ⟨_, ps_asg pt (pg_star (n := lenTs ts) (i := i) (t := g) G.calm hi (fun pins s σ H vs us Q I r hq => by rw [h1]; exact pg.run pins s σ H vs us Q I r hq) (h2.trans hlen) (by rw [h3, hpi])) (by unfold swapsWithSole; exact noLc hl) (noSwap hw), fun ρ σ H env S D re rs pp => ?_⟩
  refine q ρ σ H env S _ re rs ((PostS.bind re pp).imp fun y H1 ⟨v, ρ1, S1, e1, r1, s1, re1, p1⟩ => ?_)
  unfold starV at p1
  cases v <;> dsimp only at p1 <;> first | exact p1.elim | skip
  rename_i l
  simp only [RepV] at r1
  obtain ⟨a, vs, rfl, a1, a2⟩ := r1
  by_cases c : (decide (lenTs ts ≤ l.length + 1) && decide (i < lenTs ts) && decide (l.length ≤ 16384)) = true
  · rw [if_pos c] at p1
    simp only [Bool.and_eq_true, decide_eq_true_eq] at c
    have hL := a2.length
    refine ⟨a, vs, rfl, by rw [G.hK]; exact a1.sq, by rw [hL]; exact c.1.1, by rw [hL]; exact c.2, fun D hD => ?_⟩
    rw [hL]
    dsimp only at p1
    have E := Ext.push (o := .lst ((vs.drop i).take (l.length + 1 - lenTs ts))) s1 hD
    have rm : RepVs w ρ1 H1 ((l.drop i).take (l.length + 1 - lenTs ts)) ((vs.drop i).take (l.length + 1 - lenTs ts)) := (a2.drop i).take _
    have s2 := s1.push (c := .lst ((l.drop i).take (l.length + 1 - lenTs ts))) hD ⟨_, rfl, rm.ext E⟩
    have rD : RepV w (ρ1 ++ [D]) (upd H1 D (.lst ((vs.drop i).take (l.length + 1 - lenTs ts)))) (.ref S1.length) (.ref D) := by
      simp only [RepV]
      exact ⟨D, rfl, by rw [← s1.len]; simp⟩
    have rx : RepVs w (ρ1 ++ [D]) (upd H1 D (.lst ((vs.drop i).take (l.length + 1 - lenTs ts)))) (l.take i ++ [.ref S1.length] ++ (l.drop i).drop (l.length + 1 - lenTs ts)) (vs.take i ++ [.ref D] ++ (vs.drop i).drop (l.length + 1 - lenTs ts)) :=
      (((a2.take i).ext E).append (by simp only [RepVs]; exact ⟨_, [], rfl, rD, rfl⟩)).append (((a2.drop i).drop _).ext E)
    cases z : evTs (S1 ++ [.lst ((l.drop i).take (l.length + 1 - lenTs ts))]) ts (l.take i ++ [.ref S1.length] ++ (l.drop i).drop (l.length + 1 - lenTs ts)) env with
    | none => rw [z] at p1; exact p1.elim
    | some env' =>
      rw [z] at p1
      obtain ⟨σ', k1, k2, k3, k4, k5⟩ := qg _ σ _ env _ _ _ env' (re1.ext E) rx s2 z
      exact k5 _ (PostS.nx (PostS.later E p1) k1 s2)
  · rw [if_neg c] at p1
    exact p1.elim

/-! ### name = {k: v for ..} on one line -/
theorem sw_dict {kx vx : Expr} {gs : List Comprehension} {scope : Scope} {pos py : Pos} {y : Str} {l : Nat} {env : PySem.Env} (hk : env.scope.kind = .function) (hy : env.scope.names.lookup y = some .local) (hl : (py.line == pos.line) = true)
    (ha : (scope.names.any fun z => z.1 == y && (z.2 == .local || z.2 == .cell)) = false) : swapsWith (.DictComp kx vx gs scope pos) (some (.Name y py)) l env = pure true := by
  have ky : env.kindOf y = some .local := hy
  have hb : env.blockKind = .function := by unfold PySem.Env.blockKind; rw [hk]; rfl
  unfold swapsWith
  simp only [hb, ky, ha, Expr.pos, hl]
  rfl
theorem ps_setDc {i : Nat} {y : Str} {py : Pos} {kx vx tg iter : Expr} {ifs : List Expr} {scope : Scope} {own : List (Str × Nat)} {pos spos : Pos} {wi : TI} {g : TG} {tt : TT} {tk tv : TE} (hc : X.calm = true) (hN : X.N.Nodup) (hy : X.N[i]? = some y) (hyl : X.env.scope.names.lookup y = some .local)
    (hsw : swapsWith (.DictComp kx vx [⟨tg, iter, ifs, 0⟩] scope pos) (some (.Name y py)) spos.line X.env = pure true) (hi : PI X tg iter wi) (ok : BlkOk X.N X.env.scope scope own)
    (hg : ∀ (s : Shared) (H : Hp) (C : Addr) (cl : List (Str × Addr)) (fp : List Addr), PG (X.blk s H scope (compEnvC scope cl C X.env) fp) tg g) (ht : ∀ (s : Shared) (H : Hp) (C : Addr) (cl : List (Str × Addr)) (fp : List Addr), PTs (X.blk s H scope (compEnvC scope cl C X.env) fp) ifs tt)
    (hk : ∀ (s : Shared) (H : Hp) (C : Addr) (cl : List (Str × Addr)) (fp : List Addr), PE (X.blk s H scope (compEnvC scope cl C X.env) fp) kx tk) (he : ∀ (s : Shared) (H : Hp) (C : Addr) (cl : List (Str × Addr)) (fp : List Addr), PE (X.blk s H scope (compEnvC scope cl C X.env) fp) vx tv)
    (hs : ∀ x, foldedSetIterable iter X.env x = pure x) :
    PS X (.Assign [.Name y py] (.DictComp kx vx [⟨tg, iter, ifs, 0⟩] scope pos) spos) (tAsg (tDc wi g tt tk tv (own.map (·.2))) (gName i)) := by
  refine ⟨fun pins s σ H D I h => ?_⟩
  rw [exec_Assign_Name_used _ _ _ _ hsw]
  refine wpAny_bind (wpAny_standAt (wpAny_bind ?_))
  show wpAny _ X.A (do let _ ← comprehension (.DictComp kx vx [⟨tg, iter, ifs, 0⟩] scope pos) scope X.env (firstIterPos [⟨tg, iter, ifs, 0⟩] pos) newDict false (eval iter X.env) (some (assign (.Name y py) X.env))) _ _ s
  have h : tDc wi g tt tk tv (own.map (·.2)) σ H (fun x H1 => gName i x σ H1 D.nx) := h
  refine wpAny_bind (thn (dc_core (Qf := fun _ s' => SP X pins D .next s') hc hN I hi ok hg ht hk he hs h fun L C s' m H' I' q hn f => ?_) fun _ s' hq => wpAny_pure (wpAny_pure hq))
  show wpAny _ _ (assign (.Name y py) X.env (.ref L)) _ _ _
  refine wpAny_assign_Name (store_ok2 (v := V.ref L) I' hN hy (.inl hyl) rfl (fun s2 I2 hz => ?_) (.inr hyl))
  obtain ⟨a, sb, ha⟩ := hz
  obtain ⟨f0, f1, f2, f3, f4, f5⟩ := f
  have haC : C ≠ a := by
    rcases ha with z | z
    · rw [z]; exact f1
    · exact fun e => f4 y a z e.symm
  exact ⟨m, hn.sameBut sb haC, fun h3 sb3 => ⟨_, H', I2.turned (t' := s2.toks) (fun b o hb e => (sb3.2 b hb).trans e) f0 f1 f3 f4 f5, q⟩⟩
theorem ds_setDc (G : GoodS w T fuel k N sc W X) {i : Nat} {x : Str} {kx elt tg iter : Expr} {ifs : List Expr} {scope : Scope} {own : List (Str × Nat)} {px pos cpos : Pos} {t : IT} {mi : Env → M Src} {mk : Env → M Bool} {mx me : Env → M Val}
    (hx : N[i]? = some x) (hsw : lcSwap sc x px (.DictComp kx elt [⟨tg, iter, ifs, 0⟩] scope cpos) = true)
    (ok : BlkOk N sc scope own) (hi : DI w W X tg iter mi) (ht : chkT T N scope (relS scope sc) t tg = true) (ho : ∀ i ∈ slotsT t, i ∈ own.map (·.2))
    (hk : ∀ X', Good w T fuel k N scope (relS scope sc) WF X' → (ifs = [] ∧ mk = fun _ => pure true) ∨ ∃ c, ifs = [c] ∧ DT w WF X' c mk) (hkx : ∀ X', Good w T fuel k N scope (relS scope sc) WF X' → DE w WF X' kx mx) (he : ∀ X', Good w T fuel k N scope (relS scope sc) WF X' → DE w WF X' elt me)
    (hs : ∀ x, foldedSetIterable iter X.env x = pure x) :
    DS w W X (.Assign [.Name x px] (.DictComp kx elt [⟨tg, iter, ifs, 0⟩] scope cpos) pos) (fun env S => (dcompM mi (own.map (·.2)) t mk mx me env S).then env fun v S => .nx (envSet env i v) S) := by
  obtain ⟨ti, pi, qi⟩ := hi.ex
  have B := fun s H C cl fp => good_blk G.toGood s H scope cl C fp
  simp only [lcSwap, Bool.and_eq_true, Bool.not_eq_true'] at hsw
  have hy := pl_of hsw.1.1
  refine ⟨_, ps_setDc (i := i) (own := own) (g := gOf w t) (tt := ttOf w WF mk) (tk := tOf w WF mx) (tv := tOf w WF me) G.calm G.nd (by rw [G.hN]; exact hx) (by rw [G.hsc]; exact hy) (sw_dict (by rw [G.hsc]; exact G.kind) (by rw [G.hsc]; exact hy) hsw.1.2 hsw.2) pi (by rw [G.hN, G.hsc]; exact ok)
    (fun s H C cl fp => pg_of (B s H C cl fp) ht) (fun s H C cl fp => pts_of (hk _ (B s H C cl fp))) (fun s H C cl fp => (hkx _ (B s H C cl fp)).pe) (fun s H C cl fp => (he _ (B s H C cl fp)).pe) hs, fun ρ σ H env S D re rs p => ?_⟩
  refine dc_ok ho qi re rs ((PostS.bind re p).imp fun y H1 ⟨v, ρ1, S1, e1, r1, s1, re1, p1⟩ => ?_)
  exact p1.nx (re1.set r1 i) s1

/-! ### x, y, z = u, v, q -/
theorem swap3 {x y z : Str} {px py pz pt p2 : Pos} {j k2 : Nat} {u v q : Expr} {env : PySem.Env} (hk : env.scope.kind = .function) (hx : env.scope.names.lookup x = some .local) (hy : env.scope.names.lookup y = some .local) (hz : env.scope.names.lookup z = some .local) (hxy : x ≠ y) (hxz : x ≠ z) (hyz : y ≠ z)
    (hl : (px.line == py.line) = true) (hl2 : (px.line == pz.line) = true) (h1 : [u, v, q].all (foldedForSure 8) = false) (h2 : [u, v, q].all (constantsAlone 8) = false) (su : ∀ x p, u ≠ .Starred x p) (sv : ∀ x p, v ≠ .Starred x p) (sq : ∀ x p, q ≠ .Starred x p) :
    swappedStores [.Tuple [.Name x px, .Name y py, .Name z pz] j pt] (.Tuple [u, v, q] k2 p2) env = pure (some [x, y, z]) := by
  have hb : env.blockKind = .function := by unfold PySem.Env.blockKind; rw [hk]; rfl
  have kx : (env.kindOf x == some .local) = true := by unfold PySem.Env.kindOf; rw [hx]; rfl
  have ky : (env.kindOf y == some .local) = true := by unfold PySem.Env.kindOf; rw [hy]; rfl
  have kz : (env.kindOf z == some .local) = true := by unfold PySem.Env.kindOf; rw [hz]; rfl
  have hl' : py.line = px.line := (eq_of_beq hl).symm
  have hl2' : pz.line = px.line := (eq_of_beq hl2).symm
  have hn : [x, y, z].eraseDups.length = 3 := by
    have a : (y == x) = false := by simpa using fun e => hxy e.symm
    have b : (z == x) = false := by simpa using fun e => hxz e.symm
    have c : (z == y) = false := by simpa using fun e => hyz e.symm
    simp [List.eraseDups_cons, a, b, c]
  unfold swappedStores
  simp only [hb, h1, h2]
  simp [kx, ky, kz, Expr.pos, hl', hl2', hn, List.filterMap]
theorem ds_par3 (G : GoodS w T fuel k N sc W X) {i j l : Nat} {x y z : Str} {u v q : Expr} {mu mv mq : Env → M Val} {px py pz pt p2 pos : Pos} {kt k2 : Nat} (hi : N[i]? = some x) (hj : N[j]? = some y) (hl : N[l]? = some z) (hij : i ≠ j) (hil : i ≠ l) (hjl : j ≠ l) (hxy : x ≠ y) (hxz : x ≠ z) (hyz : y ≠ z)
    (hx : plB sc x = true) (hy : plB sc y = true) (hz : plB sc z = true) (hl1 : (px.line == py.line) = true) (hl2 : (px.line == pz.line) = true) (h1 : [u, v, q].all (foldedForSure 8) = false) (h2 : [u, v, q].all (constantsAlone 8) = false)
    (su : ∀ x p, u ≠ .Starred x p) (sv : ∀ x p, v ≠ .Starred x p) (sq : ∀ x p, q ≠ .Starred x p) (hu : DE w W X u mu) (hv : DE w W X v mv) (hq : DE w W X q mq) :
    DS w W X (.Assign [.Tuple [.Name x px, .Name y py, .Name z pz] kt pt] (.Tuple [u, v, q] k2 p2) pos) (fun env S => (mu env S).then env fun a S => (mv env S).then env fun b S => (mq env S).then env fun c S => .nx (envSet (envSet (envSet env i a) j b) l c) S) := by
  obtain ⟨tu, pu, qu⟩ := hu.ex
  obtain ⟨tv, pv, qv⟩ := hv.ex
  obtain ⟨tq, pq, qq⟩ := hq.ex
  have lx := pl_of hx
  have ly := pl_of hy
  have lz := pl_of hz
  refine ⟨_, ps_par3 (i := i) (j := j) (l := l) G.calm G.nd (by rw [G.hN]; exact hi) (by rw [G.hN]; exact hj) (by rw [G.hN]; exact hl) hij hil hjl (by rw [G.hsc]; exact lx) (by rw [G.hsc]; exact ly) (by rw [G.hsc]; exact lz) (pa_cons pu (pa_cons pv (pa_cons pq pa_nil (star_cons sq)) (star_cons sv)) (star_cons su))
    (swap3 (by rw [G.hsc]; exact G.kind) (by rw [G.hsc]; exact lx) (by rw [G.hsc]; exact ly) (by rw [G.hsc]; exact lz) hxy hxz hyz hl1 hl2 h1 h2 su sv sq), fun ρ σ H env S D re rs p => ?_⟩
  refine qu ρ σ H env S _ re rs ((PostS.bind re p).imp fun a H1 ⟨va, ρ1, S1, e1, r1, s1, re1, p1⟩ => ?_)
  refine qv ρ1 σ H1 env S1 _ re1 s1 ((PostS.bind re1 p1).imp fun b H2 ⟨vb, ρ2, S2, e2, r2, s2, re2, p2⟩ => ?_)
  refine qq ρ2 σ H2 env S2 _ re2 s2 ((PostS.bind re2 p2).imp fun c H3 ⟨vc, ρ3, S3, e3, r3, s3, re3, p3⟩ => ?_)
  exact ⟨a, b, c, rfl, p3.nx (((re3.set (r1.ext (e2.trans e3)) i).set (r2.ext e3) j).set r3 l) s3⟩
end
end Pd

/-! Pd: raise of an own exception; try .. except X as n with a plain suite. -/
namespace Pd
open PySem PySem.Spec L2
section
variable {w : Wd} {T : Tab} {fuel k : Nat} {N : List Str} {sc : Scope} {W : WX} {X : Cx}

/-! ### raise -/
theorem repKV_zip {ρ : List Addr} {H : Hp} : ∀ {fs : List Str} {vs : List Val} {us : List V}, RepVs w ρ H vs us → vs.length = fs.length → RepKV w ρ H (fs.zip vs) (fs.zip us)
  | [], [], us, h, _ => by simp only [List.zip_nil_left, RepKV]
  | [], _ :: _, _, _, hl => by cases hl
  | _ :: _, [], _, _, hl => by cases hl
  | f :: fs, v :: vs, us, h, hl => by
    simp only [RepVs] at h
    obtain ⟨u, r, rfl, h1, h2⟩ := h
    exact ⟨u, _, rfl, h1, repKV_zip h2 (by simpa using hl)⟩
theorem repKV_rev {κ : Type} [DecidableEq κ] {ρ : List Addr} {H : Hp} : ∀ {xs : List (κ × Val)} {vs : List (κ × V)}, RepKV w ρ H xs vs → RepKV w ρ H xs.reverse vs.reverse
  | [], vs, h => by
    simp only [RepKV] at h
    subst h
    simp [RepKV]
  | (q, x) :: xs, vs, h => by
    simp only [RepKV] at h
    obtain ⟨v, r, rfl, h1, h2⟩ := h
    rw [List.reverse_cons, List.reverse_cons]
    exact RepKV.snoc (repKV_rev h2) h1
theorem RepS.free {ρ : List Addr} {H : Hp} {S : Store} (r : RepS w ρ H S) {a : Addr} (h : H a = none) : a ∉ ρ := by
  intro z
  obtain ⟨i, hi⟩ := List.getElem?_of_mem z
  have hl := (List.getElem?_eq_some_iff.mp hi).1
  obtain ⟨c, hc⟩ : ∃ c, S[i]? = some c := ⟨_, List.getElem?_eq_getElem (by rw [← r.len]; exact hl)⟩
  obtain ⟨o, e, _⟩ := r.cell i a c hi hc
  rw [h] at e
  cases e
theorem own_or {d : XD} (h : (d.ty.isNone && (!d.flds.isEmpty || d.pl)) = true) : d.flds ≠ [] ∨ d.pl = true := by
  simp only [Bool.and_eq_true, Bool.or_eq_true, Bool.not_eq_true'] at h
  rcases h.2 with h | h
  · exact .inl fun e => by rw [e] at h; cases h
  · exact .inr h
theorem xc_own (G : GoodX w T X.mg) {c : Nat} (h : ownX T.xs c = true) : ∃ d C, T.xs[c]? = some d ∧ (d.flds ≠ [] ∨ d.pl = true) ∧ w.exc c = some C ∧ X.mg d.name = some (.ref C) := by
  unfold ownX at h
  cases q : T.xs[c]? with
  | none => rw [q] at h; cases h
  | some d =>
    rw [q] at h
    have ho := own_or h
    simp only [Bool.and_eq_true, Option.isNone_iff_eq_none] at h
    have n := G.nm c d q
    unfold XnAt at n
    rw [h.1] at n
    obtain ⟨C, n1, n2⟩ := n
    exact ⟨d, C, rfl, ho, n1, n2⟩
theorem ds_raise (G : GoodS w T fuel k N sc W X) {c : Nat} {x : Str} {e : Expr} {es : List Expr} {ms : Env → M (List Val)} {p cpos pos : Pos} (hx : (T.xs[c]?).map (·.name) = some x) (hg : glB sc x = true) (hdb : notDbg x = true) (hn : NoStar (e :: es)) (hs : DA w W X (e :: es) ms) :
    DS w W X (.Raise (some (.Call (.Name x p) (e :: es) [] cpos)) none pos) (fun env S => if ownX T.xs c then (ms env S).then env fun vs S => raiseR T.xs c vs env S else .bad) := by
  cases ho : ownX T.xs c with
  | false => exact ⟨_, ps_never, fun ρ σ H env S D re rs p => by rw [if_neg (by simp)] at p; exact p.elim⟩
  | true =>
    obtain ⟨t, pt, q⟩ := hs.ex
    obtain ⟨d, C, hd, hf, hC, hm⟩ := xc_own G.gx ho
    rw [hd] at hx
    have hx : d.name = x := Option.some.inj hx
    rw [hx] at hm
    obtain ⟨⟨zi, zp⟩, _⟩ := G.gx.own c d C hd hf hC
    by_cases hfl : d.flds = []
    · obtain ⟨⟨B, newId, initId, bm, b1, b2⟩, b3, b4, b5⟩ := zp hfl
      refine ⟨_, ps_raise G.calm G.tk (pmk_ownA (C := C) b1 (by rw [G.hK]; exact b2) hm (by rw [G.hK]; exact b3) (raises_own (by rw [G.hK]; exact b4) (by rw [G.hK]; exact b5)) (gl_of G.toGood hg) pt (dbg_of hdb).1 (star_cons (hn e List.mem_cons_self)) (NoStar.any (fun x hx => hn x (List.mem_cons_of_mem _ hx)) _ _)), fun ρ σ H env S D re rs p => ?_⟩
      rw [if_pos rfl] at p
      refine q ρ σ H env S _ re rs ((PostS.bind re p).imp fun us H1 ⟨vs, ρ1, S1, e1, r1, s1, re1, p1⟩ => ?_)
      unfold raiseR at p1
      rw [hd] at p1
      dsimp only at p1
      rw [if_pos (by rw [hfl]; rfl)] at p1
      split at p1
      · rename_i hz
        exact ⟨by rw [r1.length, ← size_eq]; exact hz, p1 (.ref C) none σ ρ1 _ (Ext.refl _ _) ⟨C, hC, rfl, .inl ⟨rfl, rfl⟩⟩ re1 s1⟩
      · exact p1.elim
    obtain ⟨f1, Z⟩ := zi hfl
    have Z' : XcAt X.K X.mg d.base d.flds C f1 := by rw [G.hK]; exact Z
    obtain ⟨fd, F1, hb⟩ := init_ok (P := X.prog) (w := X.w) (base := X.base) Z'
    refine ⟨_, ps_raise G.calm G.tk (pmk_oex (dvs := []) (ds := []) Z'.ox Z'.iC Z'.tI F1 (G.room.mono (by omega)) hb .nil pass0 (gl_of G.toGood hg) hm pt (dbg_of hdb).1 (star_cons (hn e List.mem_cons_self)) (NoStar.any (fun x hx => hn x (List.mem_cons_of_mem _ hx)) _ _)), fun ρ σ H env S D re rs p => ?_⟩
    rw [if_pos rfl] at p
    refine q ρ σ H env S _ re rs ((PostS.bind re p).imp fun us H1 ⟨vs, ρ1, S1, e1, r1, s1, re1, p1⟩ => ?_)
    unfold raiseR at p1
    rw [hd] at p1
    dsimp only at p1
    rw [if_neg (by simpa using hfl)] at p1
    split at p1
    · rename_i hl
      refine mk_read (K := X.K) (C := C) (H1 := H1) (Q := fun cls d H' => W cls d σ H') (by rw [r1.length]; exact hl) Z'.few.2 fun dx hdx => ?_
      have E := Ext.new (o := .xd (d.flds.zip us).reverse) s1 hdx
      exact p1 (.ref C) (some dx) σ ρ1 _ E ⟨C, hC, rfl, .inr ⟨dx, _, rfl, s1.free hdx, upd_same, (repKV_rev (repKV_zip r1 hl)).ext E⟩⟩ (re1.ext E) (s1.new hdx)
    · exact p1.elim
end
/-! ### what is said within a suite -/
theorem RepX.ext {w : Wd} {ρ ρ' : List Addr} {H H' : Hp} {x : Exn} {cls : Value} {d : Option Addr} (e : Ext ρ H ρ' H') (h : RepX w ρ H x cls d) : RepX w ρ' H' x cls d := by
  obtain ⟨C, h1, h2, h3⟩ := h
  refine ⟨C, h1, h2, ?_⟩
  rcases h3 with h3 | ⟨dx, fv, q1, q2, q3, q4⟩
  · exact .inl h3
  · exact .inr ⟨dx, fv, q1, e.out q3 q2, e.oth _ _ q3 q2, q4.ext e⟩
/-- the exception held: at a, its class C, its dict d, in slot o -/
structure Hld (w : Wd) (T : Tab) (o : Nat) (a C : Addr) (d : Option Addr) (x : Exn) (ρ : List Addr) (H : Hp) (σ : L2.St) : Prop where
  slot : σ[o]? = some (some (.ref a))
  rep : RepX w ρ H x (.ref C) d
  own : ownX T.xs x.cls = true
theorem Hld.ext {w : Wd} {T : Tab} {o : Nat} {a C : Addr} {d : Option Addr} {x : Exn} {ρ ρ' : List Addr} {H H' : Hp} {σ : L2.St} (e : Ext ρ H ρ' H') (h : Hld w T o a C d x ρ H σ) : Hld w T o a C d x ρ' H' σ := ⟨h.slot, h.rep.ext e, h.own⟩
/-- an expression -/
structure SE (w : Wd) (T : Tab) (X : Cx) (o : Nat) (a C : Addr) (d : Option Addr) (e : Expr) (m : Exn → Env → Option Val) : Prop where
  ex : ∃ t, PE X e t ∧ ∀ ρ σ H env S x (Q : VK) v, RepE w ρ H env σ → RepS w ρ H S → Hld w T o a C d x ρ H σ → m x env = some v → (∀ y H', Ext ρ H ρ H' → RepS w ρ H' S → RepV w ρ H' v y → Q y H') → t σ H Q
/-- a test -/
structure ST (w : Wd) (T : Tab) (X : Cx) (o : Nat) (a C : Addr) (d : Option Addr) (e : Expr) (m : Exn → Env → Option Val) : Prop where
  ex : ∃ t, PT X e t ∧ ∀ ρ σ H env S x (Q : Bool → Hp → Prop) b, RepE w ρ H env σ → RepS w ρ H S → Hld w T o a C d x ρ H σ → m x env = some (.bl b) → (∀ H', Ext ρ H ρ H' → RepS w ρ H' S → Q b H') → t σ H Q
structure SW (w : Wd) (T : Tab) (X : Cx) (o : Nat) (a C : Addr) (d : Option Addr) (e : Expr) (m : Exn → Env → Option Val) : Prop where
  ex : ∃ t, PW X e t ∧ ∀ ρ σ H env S x (Q : Bool → Hp → Prop) b, RepE w ρ H env σ → RepS w ρ H S → Hld w T o a C d x ρ H σ → m x env = some (.bl b) → (∀ H', Ext ρ H ρ H' → RepS w ρ H' S → Q b H') → t σ H Q
section
variable {w : Wd} {T : Tab} {X : Cx} {o : Nat} {a C : Addr} {d : Option Addr}
theorem se_plain (hK : X.K = w.K) {e : Expr} {m : Exn → Env → Option Val} (h : SE w T X o a C d e m) (he : ∀ whole, isTrue e X.env whole = (do let v ← whole; standAt e.pos; holding [v] (truthy v))) : ST w T X o a C d e m := by
  obtain ⟨t, pt, q⟩ := h.ex
  refine ⟨_, pt_truth pt he, fun ρ σ H env S x Q b re rs hh hm hQ => ?_⟩
  refine q ρ σ H env S x _ _ re rs hh hm fun y H1 e1 s1 r1 => ⟨b, ?_, hQ H1 e1 s1⟩
  rw [hK]
  exact tru_of s1 r1 rfl
theorem se_not (hK : X.K = w.K) {e : Expr} {m : Exn → Env → Option Val} {pos : Pos} (h : SE w T X o a C d e m) : SE w T X o a C d (.UnaryOp .Not e pos) (fun x env => match m x env with | some (.bl b) => some (.bl !b) | _ => none) := by
  obtain ⟨t, pt, q⟩ := h.ex
  refine ⟨_, pe_notT pt, fun ρ σ H env S x Q v re rs hh hm hQ => ?_⟩
  split at hm
  · rename_i b hb
    cases hm
    exact q ρ σ H env S x _ _ re rs hh hb fun y H1 e1 s1 r1 => ⟨b, by rw [hK]; exact tru_of s1 r1 rfl, hQ _ _ e1 s1 (by simp [RepV])⟩
  · cases hm
theorem st_not {e : Expr} {m : Exn → Env → Option Val} {pos : Pos} (h : ST w T X o a C d e m) : ST w T X o a C d (.UnaryOp .Not e pos) (fun x env => match m x env with | some (.bl b) => some (.bl !b) | _ => none) := by
  obtain ⟨t, pt, q⟩ := h.ex
  refine ⟨_, pt_not pt, fun ρ σ H env S x Q v re rs hh hm hQ => ?_⟩
  split at hm
  · rename_i b hb
    cases hm
    exact q ρ σ H env S x _ _ re rs hh hb fun H1 e1 s1 => hQ _ e1 s1
  · cases hm
theorem se_and (hK : X.K = w.K) {e b : Expr} {r : List Expr} {ma mb : Exn → Env → Option Val} {pos : Pos} (ha : SE w T X o a C d e ma) (hb : SE w T X o a C d (.BoolOp .And (b :: r) pos) mb) :
    SE w T X o a C d (.BoolOp .And (e :: b :: r) pos) (fun x env => match ma x env with | some (.bl true) => mb x env | some (.bl false) => some (.bl false) | _ => none) := by
  obtain ⟨ta, pa, qa⟩ := ha.ex
  obtain ⟨tb, pb, qb⟩ := hb.ex
  refine ⟨_, pe_andT pa pb, fun ρ σ H env S x Q v re rs hh hm hQ => ?_⟩
  split at hm
  · rename_i h1
    exact qa ρ σ H env S x _ _ re rs hh h1 fun y H1 e1 s1 r1 => ⟨true, by rw [hK]; exact tru_of s1 r1 rfl, by
      rw [if_pos rfl]
      exact qb ρ σ H1 env S x Q v (re.ext e1) s1 (hh.ext e1) hm fun y2 H2 e2 s2 r2 => hQ y2 H2 (e1.trans e2) s2 r2⟩
  · rename_i h1
    cases hm
    exact qa ρ σ H env S x _ _ re rs hh h1 fun y H1 e1 s1 r1 => ⟨false, by rw [hK]; exact tru_of s1 r1 rfl, by
      rw [if_neg (by simp)]
      exact hQ y H1 e1 s1 r1⟩
  · cases hm
theorem se_or (hK : X.K = w.K) {e b : Expr} {r : List Expr} {ma mb : Exn → Env → Option Val} {pos : Pos} (ha : SE w T X o a C d e ma) (hb : SE w T X o a C d (.BoolOp .Or (b :: r) pos) mb) :
    SE w T X o a C d (.BoolOp .Or (e :: b :: r) pos) (fun x env => match ma x env with | some (.bl true) => some (.bl true) | some (.bl false) => mb x env | _ => none) := by
  obtain ⟨ta, pa, qa⟩ := ha.ex
  obtain ⟨tb, pb, qb⟩ := hb.ex
  refine ⟨_, pe_orT pa pb, fun ρ σ H env S x Q v re rs hh hm hQ => ?_⟩
  split at hm
  · rename_i h1
    cases hm
    exact qa ρ σ H env S x _ _ re rs hh h1 fun y H1 e1 s1 r1 => ⟨true, by rw [hK]; exact tru_of s1 r1 rfl, by
      rw [if_pos rfl]
      exact hQ y H1 e1 s1 r1⟩
  · rename_i h1
    exact qa ρ σ H env S x _ _ re rs hh h1 fun y H1 e1 s1 r1 => ⟨false, by rw [hK]; exact tru_of s1 r1 rfl, by
      rw [if_neg (by simp)]
      exact qb ρ σ H1 env S x Q v (re.ext e1) s1 (hh.ext e1) hm fun y2 H2 e2 s2 r2 => hQ y2 H2 (e1.trans e2) s2 r2⟩
  · cases hm
theorem se_one {op : BoolOp} {e : Expr} {m : Exn → Env → Option Val} {pos : Pos} (h : SE w T X o a C d e m) : SE w T X o a C d (.BoolOp op [e] pos) m := by
  obtain ⟨t, pt, q⟩ := h.ex
  exact ⟨_, pe_one pt, q⟩
theorem SW.st {e : Expr} {m : Exn → Env → Option Val} (h : SW w T X o a C d e m) : ST w T X o a C d e m := by
  obtain ⟨t, pt, q⟩ := h.ex
  exact ⟨t, pt.pt, q⟩
theorem sw_and1 {e : Expr} {m : Exn → Env → Option Val} {pos : Pos} (h : ST w T X o a C d e m) : SW w T X o a C d (.BoolOp .And [e] pos) m := by
  obtain ⟨t, pt, q⟩ := h.ex
  exact ⟨t, pw_and1 pt, q⟩
theorem sw_or1 {e : Expr} {m : Exn → Env → Option Val} {pos : Pos} (h : ST w T X o a C d e m) : SW w T X o a C d (.BoolOp .Or [e] pos) m := by
  obtain ⟨t, pt, q⟩ := h.ex
  exact ⟨t, pw_or1 pt, q⟩
theorem sw_and {e b : Expr} {r : List Expr} {ma mb : Exn → Env → Option Val} {pos : Pos} (ha : ST w T X o a C d e ma) (hb : SW w T X o a C d (.BoolOp .And (b :: r) pos) mb) :
    SW w T X o a C d (.BoolOp .And (e :: b :: r) pos) (fun x env => match ma x env with | some (.bl true) => mb x env | some (.bl false) => some (.bl false) | _ => none) := by
  obtain ⟨ta, pa, qa⟩ := ha.ex
  obtain ⟨tb, pb, qb⟩ := hb.ex
  refine ⟨_, pw_and pa pb, fun ρ σ H env S x Q v re rs hh hm hQ => ?_⟩
  split at hm
  · rename_i h1
    exact qa ρ σ H env S x _ _ re rs hh h1 fun H1 e1 s1 => qb ρ σ H1 env S x Q v (re.ext e1) s1 (hh.ext e1) hm fun H2 e2 s2 => hQ H2 (e1.trans e2) s2
  · rename_i h1
    cases hm
    exact qa ρ σ H env S x _ _ re rs hh h1 fun H1 e1 s1 => hQ H1 e1 s1
  · cases hm
theorem sw_or {e b : Expr} {r : List Expr} {ma mb : Exn → Env → Option Val} {pos : Pos} (ha : ST w T X o a C d e ma) (hb : SW w T X o a C d (.BoolOp .Or (b :: r) pos) mb) :
    SW w T X o a C d (.BoolOp .Or (e :: b :: r) pos) (fun x env => match ma x env with | some (.bl true) => some (.bl true) | some (.bl false) => mb x env | _ => none) := by
  obtain ⟨ta, pa, qa⟩ := ha.ex
  obtain ⟨tb, pb, qb⟩ := hb.ex
  refine ⟨_, pw_or pa pb, fun ρ σ H env S x Q v re rs hh hm hQ => ?_⟩
  split at hm
  · rename_i h1
    cases hm
    exact qa ρ σ H env S x _ _ re rs hh h1 fun H1 e1 s1 => hQ H1 e1 s1
  · rename_i h1
    exact qa ρ σ H env S x _ _ re rs hh h1 fun H1 e1 s1 => qb ρ σ H1 env S x Q v (re.ext e1) s1 (hh.ext e1) hm fun H2 e2 s2 => hQ H2 (e1.trans e2) s2
  · cases hm
end
/-! ### isinstance of the held exception -/
/-- its dict stands -/
def DictAt (H : Hp) (d : Option Addr) : Prop := d = none ∨ ∃ dx fs, d = some dx ∧ H dx = some (.xd fs)
theorem hld_dict {w : Wd} {ρ : List Addr} {H : Hp} {x : Exn} {cls : Value} {d : Option Addr} (h : RepX w ρ H x cls d) : DictAt H d := by
  obtain ⟨C, _, _, h3⟩ := h
  rcases h3 with ⟨_, h3⟩ | ⟨dx, fv, q1, _, q3, _⟩
  · exact .inl h3
  · exact .inr ⟨dx, fv, q1, q3⟩
def rX1 (K : PySem.W.Frag) (C a : Addr) (d : Option Addr) : List V → Hp → VK → Prop := fun xs H Q => ∃ (c : V) (u : Value) (b : Bool), xs = [.ref a, c] ∧ ClsV c u ∧ DictAt H d ∧ PySem.W.kitOne K (.ref C) u = some b ∧ Q (.bl b) H
def rXt (K : PySem.W.Frag) (C a : Addr) (d : Option Addr) : List V → Hp → VK → Prop := fun xs H Q => ∃ (tp : Addr) (cs : List V) (us : List Value) (b : Bool), xs = [.ref a, .ref tp] ∧ H tp = some (.tup cs) ∧ Paired ClsV cs us ∧ DictAt H d ∧ PySem.W.kitAny K (.ref C) us = some b ∧ Q (.bl b) H
section
variable {X : Cx} {a C : Addr} {oe : Obj} {d : Option Addr} {pn : List (Addr × Obj)}
theorem held_inst {pins : List (Addr × Obj)} {σ : L2.St} {H : Hp} {s : Shared} (hz : Zc (.ref C) d oe) (hf : ∃ vs, oe.data = .fields vs) (I : Inv (X.suite a ((a, oe) :: pn)) pins σ H s) (hd : DictAt H d) : ∃ od, PySem.W.InstAt s.heap a oe C od := by
  obtain ⟨hget, _⟩ := I.pin (a, oe) (List.mem_append_left _ List.mem_cons_self)
  obtain ⟨vs, hv⟩ := hf
  rcases hd with rfl | ⟨dx, fs, rfl, he⟩
  · exact ⟨none, hget, hz.1, by unfold PySem.W.notCls; rw [hv], by rw [hz.2]; trivial⟩
  · obtain ⟨mA, hns, _⟩ := (show ObjOk X.prog X.w H s.heap dx (.xd fs) from I.hok dx _ he)
    obtain ⟨od, ho, _⟩ := lookIn_ns hns
    exact ⟨some od, hget, hz.1, by unfold PySem.W.notCls; rw [hv], by rw [hz.2]; exact ho⟩
theorem kit_held (Z : ExcC X.K C) {od : Option Obj} {u : Addr} : PySem.W.KitX X.K (.ref u) (.ref C) (fun h => PySem.W.InstAt h u oe C od) :=
  PySem.W.kitx_exc (by obtain ⟨cd, hc, _⟩ := PySem.W.any_some Z.hd; rw [hc]; rfl) Z.hg Z.hk Z.hs Z.ha Z.hn Z.ht Z.hm
theorem call_x1 (Z : ExcC X.K C) (hz : Zc (.ref C) d oe) (hf : ∃ vs, oe.data = .fields vs) : CallR (X.suite a ((a, oe) :: pn)) (.builtin "isinstance") (rX1 X.K C a d) := by
  intro pins s σ H xs us Q I r h
  obtain ⟨c, u, b, rfl, k, hd, e, q⟩ := h
  obtain ⟨u1, u2, rfl, r1, r2⟩ := vals2 r
  have e2 := k.eq r2
  subst e2
  cases (show u1 = Value.ref a from r1)
  obtain ⟨od, J⟩ := held_inst hz hf I hd
  exact PySem.W.kia_one (kit_held Z) I.kIn J e (fun z => nomatch z) fun tk => ⟨.bl b, H, I.tok tk, rfl, q⟩
theorem call_xt (Z : ExcC X.K C) (hz : Zc (.ref C) d oe) (hf : ∃ vs, oe.data = .fields vs) : CallR (X.suite a ((a, oe) :: pn)) (.builtin "isinstance") (rXt X.K C a d) := by
  intro pins s σ H xs us Q I r h
  obtain ⟨tp, cs, ws, b, rfl, hT, k, hd, e, q⟩ := h
  obtain ⟨u1, u2, rfl, r1, r2⟩ := vals2 r
  cases (show u2 = Value.ref tp from r2)
  cases (show u1 = Value.ref a from r1)
  obtain ⟨od, J⟩ := held_inst hz hf I hd
  obtain ⟨_, its, rv, o, h1, h2, n, h3⟩ := (show ObjOk X.prog X.w H s.heap tp (.tup cs) from I.hok tp _ hT)
  have e3 := ClsV.all k rv
  subst e3
  obtain ⟨oc, od2, dt, sl⟩ := o
  simp only at h2 h3
  subst h2 h3
  exact PySem.W.kia_tup (kit_held Z) I.kIn J h1 e (fun z => nomatch z) fun tk => ⟨.bl b, H, I.tok tk, rfl, q⟩
end
/-! ### what an expression of a suite is -/
section
variable {w : Wd} {T : Tab} {fuel k : Nat} {N : List Str} {sc : Scope} {W : WX} {X : Cx} {o : Nat} {a C : Addr} {oe : Obj} {d : Option Addr} {pn : List (Addr × Obj)} {n : Str}
theorem xcls_at (G : GoodX w T X.mg) {c : Nat} {x : Exn} {dx : XD} (hd : T.xs[c]? = some dx) : ∃ v u, xVal w c dx = some u ∧ ClsV v u ∧ (∀ {y : Str} {p : Pos} {pn' : List (Addr × Obj)}, dx.name = y → Gl X y → notDbg y = true → ∃ te, PE (X.suite a pn') (.Name y p) te ∧ ∀ σ H (Q : VK), Q v H → te σ H Q) := by
  have n := G.nm c dx hd
  unfold XnAt at n
  unfold xVal
  cases q : dx.ty with
  | none =>
    rw [q] at n
    obtain ⟨C, n1, n2⟩ := n
    refine ⟨.ref C, .ref C, by rw [n1]; rfl, .own C, fun {y p pn'} hy hg hdb => ?_⟩
    rw [hy] at n2
    exact ⟨_, pe_glob (X := X.suite a pn') (v := V.ref C) hg n2 rfl (dbg_of hdb).1, fun σ H Q q => q⟩
  | some t =>
    rw [q] at n
    obtain ⟨n1, n2⟩ := n
    refine ⟨.ty t, .type t, rfl, .ty t, fun {y p pn'} hy hg hdb => ?_⟩
    rw [hy] at n1 n2
    exact ⟨_, pe_bltn (X := X.suite a pn') (v := .ty t) (u := .type t) hg n1 n2 rfl (dbg_of hdb).2.2 (dbg_of hdb).1, fun σ H Q q => q⟩
theorem xnB_at (G : GoodS w T fuel k N sc W X) {c : Nat} {e : Expr} (h : xnB T sc c e = true) : ∃ dx v u te, T.xs[c]? = some dx ∧ xVal w c dx = some u ∧ ClsV v u ∧ PE (X.suite a pn) e te ∧ (∀ σ H (Q : VK), Q v H → te σ H Q) ∧ (∀ x p, e ≠ .Starred x p) ∧ ∃ x p, e = .Name x p ∧ Names X x u := by
  unfold xnB at h
  cases e <;> first | cases h | skip
  rename_i y p
  simp only [Bool.and_eq_true, decide_eq_true_eq] at h
  obtain ⟨⟨h1, h2⟩, h3⟩ := h
  cases q : T.xs[c]? with
  | none => rw [q] at h1; cases h1
  | some dx =>
    rw [q] at h1
    have hy : dx.name = y := Option.some.inj h1
    obtain ⟨v, u, k1, k2, k3⟩ := xcls_at (a := a) (x := ⟨0, []⟩) G.gx q
    obtain ⟨te, k4, k5⟩ := k3 (y := y) (p := p) (pn' := pn) hy (gl_of G.toGood h2) h3
    refine ⟨dx, v, u, te, rfl, k1, k2, k4, k5, (fun _ _ z => by cases z), y, p, rfl, gl_of G.toGood h2, (dbg_of h3).1, ?_⟩
    have nn := G.gx.nm c dx q
    unfold XnAt at nn
    unfold xVal at k1
    cases qt : dx.ty with
    | none =>
      rw [qt] at nn k1
      obtain ⟨C, n1, n2⟩ := nn
      rw [hy] at n2
      rw [n1] at k1
      cases k1
      exact .inl n2
    | some t =>
      rw [qt] at nn k1
      cases k1
      rw [hy] at nn
      exact .inr ⟨nn.1, nn.2, (dbg_of h3).2.2⟩
end
example : evX [] ⟨0, []⟩ (.tup [.lit .non]) [] = some (.tup [.non]) := rfl
/-- an expression of a suite, in all its uses -/
structure SB (w : Wd) (T : Tab) (X : Cx) (o : Nat) (a C : Addr) (d : Option Addr) (e : Expr) (m : Exn → Env → Option Val) : Prop where
  se : SE w T X o a C d e m
  st : ST w T X o a C d e m
  sw : ∀ op es p, e = .BoolOp op es p → SW w T X o a C d e m
/-- arguments -/
structure SA (w : Wd) (T : Tab) (X : Cx) (o : Nat) (a C : Addr) (d : Option Addr) (es : List Expr) (m : Exn → Env → Option (List Val)) : Prop where
  ex : ∃ t, PA X es t ∧ ∀ ρ σ H env S x (Q : List V → Hp → Prop) vs, RepE w ρ H env σ → RepS w ρ H S → Hld w T o a C d x ρ H σ → m x env = some vs → (∀ ys H', Ext ρ H ρ H' → RepS w ρ H' S → RepVs w ρ H' vs ys → Q ys H') → t σ H Q
section
variable {w : Wd} {T : Tab} {X : Cx} {o : Nat} {a C : Addr} {d : Option Addr}
theorem sb_plain (hK : X.K = w.K) {e : Expr} {m : Exn → Env → Option Val} (h : SE w T X o a C d e m) (hb : ∀ op es p, e ≠ .BoolOp op es p) (he : ∀ whole, isTrue e X.env whole = (do let v ← whole; standAt e.pos; holding [v] (truthy v)) := by intro _; rfl) : SB w T X o a C d e m :=
  ⟨h, se_plain hK h he, fun op es p z => absurd z (hb op es p)⟩
theorem se_lit {l : Lit} {c : Const} {j : Nat} {pos : Pos} (h : litB l c = true) : SE w T X o a C d (.Constant c j pos) (fun _ _ => some l.val) := by
  cases l with
  | non => cases c <;> first | exact ⟨_, pe_non, fun ρ σ H env S x Q v re rs hh hm hQ => by cases hm; exact hQ _ H (Ext.refl _ _) rs (by simp [Lit.val, RepV])⟩ | cases h
  | bl b => cases c with
    | bool b' =>
      have e : b = b' := by simpa [litB] using h
      subst e
      exact ⟨_, pe_bl, fun ρ σ H env S x Q v re rs hh hm hQ => by cases hm; exact hQ _ H (Ext.refl _ _) rs (by simp [Lit.val, RepV])⟩
    | _ => cases h
  | int i => cases c with
    | int i' =>
      have e : i = i' := by simpa [litB] using h
      subst e
      exact ⟨_, pe_int, fun ρ σ H env S x Q v re rs hh hm hQ => by cases hm; exact hQ _ H (Ext.refl _ _) rs (by simp [Lit.val, RepV])⟩
    | _ => cases h
  | str y => cases c with
    | str y' =>
      have e : y = y' := by simpa [litB] using h
      subst e
      exact ⟨_, pe_str, fun ρ σ H env S x Q v re rs hh hm hQ => by cases hm; exact hQ _ H (Ext.refl _ _) rs (by simp [Lit.val, RepV])⟩
    | _ => cases h
theorem se_var {N : List Str} {i : Nat} {y : Str} {pos : Pos} (hN : X.N = N) (h1 : N[i]? = some y) (h2 : visB X.env.scope y = true) (h3 : notDbg y = true) : SE w T X o a C d (.Name y pos) (fun _ env => envGet env i) := by
  refine ⟨_, pe_var (i := i) (by rw [hN]; exact h1) (vis_of h2) (dbg_of h3).1 (dbg_of h3).2.1, fun ρ σ H env S x Q v re rs hh hm hQ => ?_⟩
  obtain ⟨y, e1, e2⟩ := re.get hm
  exact ⟨y, e1, hQ y H (Ext.refl _ _) rs e2⟩
theorem sa_nil : SA w T X o a C d [] (fun _ _ => some []) := ⟨_, pa_nil, fun ρ σ H env S x Q vs re rs hh hm hQ => by cases hm; exact hQ [] H (Ext.refl _ _) rs (by simp [RepVs])⟩
theorem sa_cons {e : Expr} {es : List Expr} {m : Exn → Env → Option Val} {ms : Exn → Env → Option (List Val)} (hs : ∀ x p, e ≠ .Starred x p) (h : SE w T X o a C d e m) (t : SA w T X o a C d es ms) :
    SA w T X o a C d (e :: es) (fun x env => match m x env, ms x env with | some v, some vs => some (v :: vs) | _, _ => none) := by
  obtain ⟨t1, p1, q1⟩ := h.ex
  obtain ⟨t2, p2, q2⟩ := t.ex
  refine ⟨_, pa_cons p1 p2 (star_cons hs), fun ρ σ H env S x Q vs re rs hh hm hQ => ?_⟩
  split at hm
  · rename_i v ws h1 h2
    cases hm
    exact q1 ρ σ H env S x _ _ re rs hh h1 fun y H1 e1 s1 r1 => q2 ρ σ H1 env S x _ _ (re.ext e1) s1 (hh.ext e1) h2 fun ys H2 e2 s2 r2 => hQ (y :: ys) H2 (e1.trans e2) s2 (by
      simp only [RepVs]
      exact ⟨y, ys, rfl, r1.ext e2, r2⟩)
  · cases hm
theorem se_tup {es : List Expr} {ms : Exn → Env → Option (List Val)} {j : Nat} {pos : Pos} (hz : es.length ≤ 100) (hl : ∀ x env vs, ms x env = some vs → vs.length = es.length) (t : SA w T X o a C d es ms) : SE w T X o a C d (.Tuple es j pos) (fun x env => (ms x env).map .tup) := by
  obtain ⟨t1, p1, q1⟩ := t.ex
  refine ⟨_, pe_tup p1, fun ρ σ H env S x Q v re rs hh hm hQ => ?_⟩
  cases h1 : ms x env with
  | none => rw [h1] at hm; cases hm
  | some vs =>
    rw [h1] at hm
    cases hm
    have hlen := hl x env vs h1
    exact q1 ρ σ H env S x _ _ re rs hh h1 fun ys H1 e1 s1 r1 => ⟨by rw [r1.length, hlen, sizeLine_eq]; omega, fun p hp => by
      have E := Ext.new (o := .tup ys) s1 hp
      exact hQ _ _ (e1.trans E) (s1.new hp) (by
        simp only [RepV]
        exact ⟨p, ys, rfl, .inl ⟨s1.free hp, .inl upd_same⟩, r1.ext E⟩)⟩
end
section
variable {w : Wd} {T : Tab} {fuel k : Nat} {N : List Str} {sc : Scope} {W : WX} {X : Cx} {o : Nat} {a C : Addr} {oe : Obj} {d : Option Addr} {pn : List (Addr × Obj)} {n : Str}
/-- what is known of the class of what is held -/
structure Kls (w : Wd) (T : Tab) (C : Addr) : Prop where
  ex : ExcC w.K C
  xf : XfC w.K C
  no : ∀ f ∈ T.xs.flatMap (·.flds), PySem.W.findIn w.K (.ref C) f = some none
theorem se_held (G : GoodS w T fuel k N sc W X) (hN : N[o]? = some n) (hv : visB sc n = true) (hd : notDbg n = true) {pos : Pos} : PE (X.suite a pn) (.Name n pos) (tVar o) :=
  pe_var (X := X.suite a pn) (i := o) (by show X.N[o]? = some n; rw [G.hN]; exact hN) (by show Vis X.env.scope n; rw [G.hsc]; exact vis_of hv) (dbg_of hd).1 (dbg_of hd).2.1
theorem se_fld (G : GoodS w T fuel k N sc W X) (Z : Kls w T C) (hz : Zc (.ref C) d oe) (hf : ∃ vs, oe.data = .fields vs) (hN : N[o]? = some n) (hv : visB sc n = true) (hdb : notDbg n = true) {f : Str} (hm : f ∈ T.xs.flatMap (·.flds)) {p pos : Pos} :
    SE w T (X.suite a ((a, oe) :: pn)) o a C d (.Attribute (.Name n p) f pos) (fun x _ => x.fs.lookup f) := by
  refine ⟨_, pe_xf (X := X) (C := C) (n := f) (by rw [G.hK]; exact Z.xf) (by rw [G.hK]; exact Z.no f hm) hz hf (se_held G hN hv hdb) (attr_base fun _ _ _ z => nomatch z), fun ρ σ H env S x Q v re rs hh hm hQ => ?_⟩
  refine ⟨_, hh.slot, rfl, rfl, ?_⟩
  obtain ⟨C', _, _, h3⟩ := hh.rep
  rcases h3 with ⟨h3, _⟩ | ⟨dx, fv, q1, q2, q3, q4⟩
  · rw [h3] at hm
    cases hm
  · have key : ∀ {xs : List (Str × Val)} {vs : List (Str × V)}, RepKV w ρ H xs vs → xs.lookup f = some v → ∃ y, vs.lookup f = some y ∧ RepV w ρ H v y := by
      intro xs
      induction xs with
      | nil => intro vs _ h; cases h
      | cons e xs ih =>
        obtain ⟨g, u⟩ := e
        intro vs h hl
        simp only [RepKV] at h
        obtain ⟨y, r, rfl, h1, h2⟩ := h
        rw [List.lookup_cons] at hl ⊢
        split at hl
        · rename_i hb
          cases hl
          exact ⟨y, rfl, h1⟩
        · rename_i hb
          obtain ⟨y2, k1, k2⟩ := ih h2 hl
          exact ⟨y2, k1, k2⟩
    obtain ⟨y, k1, k2⟩ := key q4 hm
    exact ⟨dx, fv, y, q1, q3, k1, hQ y H (Ext.refl _ _) rs k2⟩
end
section
variable {w : Wd} {T : Tab} {fuel k : Nat} {N : List Str} {sc : Scope} {W : WX} {X : Cx} {o : Nat} {a C : Addr} {oe : Obj} {d : Option Addr} {pn : List (Addr × Obj)} {n : Str}
/-- the kit's answers are those of the table -/
theorem held_kit (G : GoodX w T X.mg) {x : Exn} {c2 : Nat} {d2 : XD} {u : Value} (hC : w.exc x.cls = some C) (ho : ownX T.xs x.cls = true) (h2 : T.xs[c2]? = some d2) (hv : xVal w c2 d2 = some u) :
    PySem.W.kitOne w.K (.ref C) u = some (subX T.xs x.cls c2) ∧ PySem.W.exmOne w.K (.ref C) u = some (subX T.xs x.cls c2) := by
  unfold ownX at ho
  cases h1 : T.xs[x.cls]? with
  | none => rw [h1] at ho; cases ho
  | some dx =>
    rw [h1] at ho
    have := (G.own x.cls dx C h1 (own_or ho) hC).2.2.2.2 c2 d2 u h2 hv
    unfold subX
    rw [h1]
    exact this
theorem rep_exc {ρ : List Addr} {H : Hp} {x : Exn} (h : RepX w ρ H x (.ref C) d) : w.exc x.cls = some C := by
  obtain ⟨C', h1, h2, _⟩ := h
  injection h2 with h2
  rw [h2]
  exact h1
theorem se_isi1 (G : GoodS w T fuel k N sc W X) (Z : Kls w T C) (hz : Zc (.ref C) d oe) (hf : ∃ vs, oe.data = .fields vs) (hN : N[o]? = some n) (hv : visB sc n = true) (hdb : notDbg n = true) {c : Nat} {e : Expr} {p q pos : Pos}
    (hg : glB sc "isinstance" = true) (hm : ("isinstance" : Str) ∈ T.blts) (hc : xnB T sc c e = true) : SE w T (X.suite a ((a, oe) :: pn)) o a C d (.Call (.Name "isinstance" q) [.Name n p, e] [] pos) (fun x _ => some (.bl (subX T.xs x.cls c))) := by
  obtain ⟨dx, v, u, te, h1, h2, h3, h4, h5, h6, _⟩ := xnB_at (a := a) (pn := (a, oe) :: pn) G hc
  have Ze : ExcC X.K C := by rw [G.hK]; exact Z.ex
  refine ⟨_, pe_callB (X := X.suite a ((a, oe) :: pn)) (call_x1 Ze hz hf) (gl_of G.toGood hg) (G.blts _ hm) (by decide +kernel) (pa_cons (se_held G hN hv hdb) (pa_cons h4 pa_nil (star_cons h6)) (by rfl)) (by decide +kernel) (by decide +kernel) (by rfl) (NoStar.any (fun y hy => by
    have := List.mem_singleton.mp hy
    subst this
    exact h6) _ _), fun ρ σ H env S x Q v' re rs hh hm hQ => ?_⟩
  cases hm
  refine ⟨_, hh.slot, h5 σ H _ ?_⟩
  refine ⟨v, u, subX T.xs x.cls c, rfl, h3, hld_dict hh.rep, ?_, hQ _ H (Ext.refl _ _) rs (by simp [RepV])⟩
  rw [G.hK]
  exact (held_kit G.gx (rep_exc hh.rep) hh.own h1 h2).1
theorem xns_at (G : GoodS w T fuel k N sc W X) : ∀ (cs : List Nat) (es : List Expr), xnsB T sc cs es = true →
    (∃ vs us t, PA (X.suite a pn) es t ∧ (∀ σ H (Q : List V → Hp → Prop), Q vs H → t σ H Q) ∧ Paired ClsV vs us ∧ vs.length = es.length ∧ ∀ x : Exn, w.exc x.cls = some C → ownX T.xs x.cls = true → PySem.W.kitAny w.K (.ref C) us = some (cs.any fun c => subX T.xs x.cls c))
  | [], [], _ => ⟨[], [], _, pa_nil, fun σ H Q q => q, .nil, rfl, fun x _ _ => rfl⟩
  | [], _ :: _, h => by cases h
  | _ :: _, [], h => by cases h
  | c :: cs, e :: es, h => by
    simp only [xnsB, Bool.and_eq_true] at h
    obtain ⟨vs, us, t, k1, k2, k3, k4, k5⟩ := xns_at G cs es h.2
    obtain ⟨dx, v, u, te, h1, h2, h3, h4, h5, h6, _⟩ := xnB_at (a := a) (pn := pn) G h.1
    refine ⟨v :: vs, u :: us, _, pa_cons h4 k1 (star_cons h6), fun σ H Q q => h5 σ H _ (k2 σ H _ q), .cons h3 k3, by rw [List.length_cons, List.length_cons, k4], fun x hC ho => ?_⟩
    have e1 := (held_kit G.gx hC ho h1 h2).1
    unfold PySem.W.kitAny
    rw [e1, List.any_cons]
    cases subX T.xs x.cls c with
    | true => rfl
    | false => exact k5 x hC ho
theorem se_isi (G : GoodS w T fuel k N sc W X) (Z : Kls w T C) (hz : Zc (.ref C) d oe) (hf : ∃ vs, oe.data = .fields vs) (hN : N[o]? = some n) (hv : visB sc n = true) (hdb : notDbg n = true) {cs : List Nat} {es : List Expr} {j : Nat} {p q tp pos : Pos}
    (hg : glB sc "isinstance" = true) (hm : ("isinstance" : Str) ∈ T.blts) (hc : xnsB T sc cs es = true) (hz2 : es.length ≤ 100) : SE w T (X.suite a ((a, oe) :: pn)) o a C d (.Call (.Name "isinstance" q) [.Name n p, .Tuple es j tp] [] pos) (fun x _ => some (.bl (cs.any fun c => subX T.xs x.cls c))) := by
  obtain ⟨vs, us, t, k1, k2, k3, k4, k5⟩ := xns_at (a := a) (C := C) (pn := (a, oe) :: pn) G cs es hc
  have Ze : ExcC X.K C := by rw [G.hK]; exact Z.ex
  refine ⟨_, pe_callB (X := X.suite a ((a, oe) :: pn)) (call_xt Ze hz hf) (gl_of G.toGood hg) (G.blts _ hm) (by decide +kernel) (pa_cons (se_held G hN hv hdb) (pa_cons (pe_tup k1) pa_nil (by rfl)) (by rfl)) (by decide +kernel) (by decide +kernel) (by rfl) (by rfl), fun ρ σ H env S x Q v' re rs hh hm hQ => ?_⟩
  cases hm
  refine ⟨_, hh.slot, k2 σ H _ ⟨by rw [k4, sizeLine_eq]; omega, fun tp' hp => ?_⟩⟩
  have E := Ext.new (o := .tup vs) rs hp
  refine ⟨tp', vs, us, cs.any fun c => subX T.xs x.cls c, rfl, upd_same, k3, hld_dict (hh.ext E).rep, ?_, hQ _ _ E (rs.new hp) (by simp [RepV])⟩
  rw [G.hK]
  exact k5 x (rep_exc hh.rep) hh.own
end
theorem chkXEs_star {T : Tab} {N : List Str} {sc : Scope} {n : Str} : ∀ {es : List XE} {xs : List Expr}, chkXEs T N sc n es xs = true → (∀ x ∈ xs, ∀ y p, x ≠ .Starred y p) ∧ es.length = xs.length
  | [], [], _ => ⟨fun x h => (List.not_mem_nil h).elim, rfl⟩
  | [], _ :: _, h => by simp [chkXEs] at h
  | _ :: _, [], h => by simp [chkXEs] at h
  | e :: es, x :: xs, h => by
    simp only [chkXEs, Bool.and_eq_true] at h
    obtain ⟨k1, k2⟩ := chkXEs_star h.2
    refine ⟨fun z hz y p q => ?_, by rw [List.length_cons, List.length_cons, k2]⟩
    rcases List.mem_cons.mp hz with rfl | hz
    · subst q
      have := h.1
      cases e <;> simp [chkXE] at this
    · exact k1 z hz y p q
theorem evXs_len {xs : List XD} {x : Exn} {env : Env} : ∀ {es : List XE} {vs : List Val}, evXs xs x es env = some vs → vs.length = es.length
  | [], vs, h => by
    simp only [evXs] at h
    cases h; rfl
  | e :: es, vs, h => by
    simp only [evXs] at h
    split at h
    · rename_i v ws h1 h2
      cases h
      rw [List.length_cons, List.length_cons, evXs_len h2]
    · cases h
section
variable {w : Wd} {T : Tab} {fuel k : Nat} {N : List Str} {sc : Scope} {W : WX} {X : Cx} {o : Nat} {a C : Addr} {oe : Obj} {d : Option Addr} {pn : List (Addr × Obj)} {n : Str}
mutual
theorem sx_of (G : GoodS w T fuel k N sc W X) (Z : Kls w T C) (hz : Zc (.ref C) d oe) (hf : ∃ vs, oe.data = .fields vs) (hN : N[o]? = some n) (hv : visB sc n = true) (hdb : notDbg n = true) : ∀ (e' : XE) (e : Expr), chkXE T N sc n e' e = true → SB w T (X.suite a ((a, oe) :: pn)) o a C d e (fun x env => evX T.xs x e' env)
  | .lit l, e, h => by
    cases e <;> first | (simp [chkXE] at h; done) | skip
    simp only [chkXE] at h
    simp only [evX]
    exact sb_plain (X := X.suite a ((a, oe) :: pn)) G.hK (se_lit h) (by intro _ _ _ z; cases z)
  | .var i, e, h => by
    cases e <;> first | (simp [chkXE] at h; done) | skip
    simp only [chkXE, Bool.and_eq_true, decide_eq_true_eq] at h
    simp only [evX]
    exact sb_plain (X := X.suite a ((a, oe) :: pn)) G.hK (se_var (X := X.suite a ((a, oe) :: pn)) G.hN h.1.1 (by show visB X.env.scope _ = true; rw [G.hsc]; exact h.1.2) h.2) (by intro _ _ _ z; cases z)
  | .tup es, e, h => by
    cases e <;> first | (simp [chkXE] at h; done) | skip
    simp only [chkXE, Bool.and_eq_true, decide_eq_true_eq] at h
    simp only [evX]
    exact sb_plain (X := X.suite a ((a, oe) :: pn)) G.hK (se_tup h.2 (fun x env vs q => by rw [evXs_len q]; exact (chkXEs_star h.1).2) (sxs_args G Z hz hf hN hv hdb es _ h.1)) (by intro _ _ _ z; cases z)
  | .isi1 c, e, h => by
    cases e <;> first | (simp [chkXE] at h; done) | skip
    rename_i fe xs kw p
    cases fe <;> first | (simp [chkXE] at h; done) | skip
    rcases xs with _ | ⟨x1, _ | ⟨x2, _ | ⟨_, _⟩⟩⟩ <;> first | (simp [chkXE] at h; done) | (cases x1 <;> simp [chkXE] at h; done) | skip
    cases x1 <;> first | (simp [chkXE] at h; done) | skip
    cases kw <;> first | (simp [chkXE] at h; done) | skip
    simp only [chkXE, Bool.and_eq_true, decide_eq_true_eq] at h
    obtain ⟨⟨⟨⟨rfl, h2⟩, h3⟩, rfl⟩, h5⟩ := h
    simp only [evX]
    exact sb_plain (X := X.suite a ((a, oe) :: pn)) G.hK (se_isi1 G Z hz hf hN hv hdb h2 (by simpa using h3) h5) (by intro _ _ _ z; cases z)
  | .isi cs, e, h => by
    cases e <;> first | (simp [chkXE] at h; done) | skip
    rename_i fe xs kw p
    cases fe <;> first | (simp [chkXE] at h; done) | skip
    rcases xs with _ | ⟨x1, _ | ⟨x2, _ | ⟨_, _⟩⟩⟩ <;> first | (simp [chkXE] at h; done) | (cases x1 <;> simp [chkXE] at h; done) | skip
    cases x1 <;> first | (simp [chkXE] at h; done) | skip
    cases x2 <;> first | (simp [chkXE] at h; done) | skip
    cases kw <;> first | (simp [chkXE] at h; done) | skip
    simp only [chkXE, Bool.and_eq_true, decide_eq_true_eq] at h
    obtain ⟨⟨⟨⟨⟨rfl, h2⟩, h3⟩, rfl⟩, h5⟩, h6⟩ := h
    simp only [evX]
    exact sb_plain (X := X.suite a ((a, oe) :: pn)) G.hK (se_isi G Z hz hf hN hv hdb h2 (by simpa using h3) h5 h6) (by intro _ _ _ z; cases z)
  | .fld f, e, h => by
    cases e <;> first | (simp [chkXE] at h; done) | skip
    rename_i y g p
    cases y <;> first | (simp [chkXE] at h; done) | skip
    simp only [chkXE, Bool.and_eq_true, decide_eq_true_eq] at h
    obtain ⟨⟨rfl, rfl⟩, h3⟩ := h
    simp only [evX]
    exact sb_plain (X := X.suite a ((a, oe) :: pn)) G.hK (se_fld G Z hz hf hN hv hdb (by simpa using h3)) (by intro _ _ _ z; cases z)
  | .not b, e, h => by
    cases e <;> first | (simp [chkXE] at h; done) | skip
    rename_i op y p
    cases op <;> first | (simp [chkXE] at h; done) | skip
    simp only [chkXE] at h
    simp only [evX]
    have q := sx_of G Z hz hf hN hv hdb b _ h
    exact ⟨se_not (X := X.suite a ((a, oe) :: pn)) G.hK q.se, st_not q.st, by intro _ _ _ z; cases z⟩
  | .and b c, e, h => by
    cases e <;> first | (simp [chkXE] at h; done) | skip
    rename_i op es p
    cases op <;> first | (simp [chkXE] at h; done) | skip
    rcases es with _ | ⟨x, _ | ⟨y, r⟩⟩ <;> first | (simp [chkXE] at h; done) | skip
    simp only [chkXE, Bool.and_eq_true] at h
    simp only [evX]
    have q1 := sx_of G Z hz hf hN hv hdb b _ h.1
    have q2 := sx_of G Z hz hf hN hv hdb c _ h.2
    have k : SE w T (X.suite a ((a, oe) :: pn)) o a C d (.BoolOp .And (y :: r) p) (fun x env => evX T.xs x c env) ∧ SW w T (X.suite a ((a, oe) :: pn)) o a C d (.BoolOp .And (y :: r) p) (fun x env => evX T.xs x c env) := by
      cases r with
      | nil => exact ⟨se_one q2.se, sw_and1 q2.st⟩
      | cons z r => exact ⟨q2.se, q2.sw _ _ _ rfl⟩
    have sw := sw_and q1.st k.2
    exact ⟨se_and (X := X.suite a ((a, oe) :: pn)) G.hK q1.se k.1, sw.st, fun _ _ _ _ => sw⟩
  | .or b c, e, h => by
    cases e <;> first | (simp [chkXE] at h; done) | skip
    rename_i op es p
    cases op <;> first | (simp [chkXE] at h; done) | skip
    rcases es with _ | ⟨x, _ | ⟨y, r⟩⟩ <;> first | (simp [chkXE] at h; done) | skip
    simp only [chkXE, Bool.and_eq_true] at h
    simp only [evX]
    have q1 := sx_of G Z hz hf hN hv hdb b _ h.1
    have q2 := sx_of G Z hz hf hN hv hdb c _ h.2
    have k : SE w T (X.suite a ((a, oe) :: pn)) o a C d (.BoolOp .Or (y :: r) p) (fun x env => evX T.xs x c env) ∧ SW w T (X.suite a ((a, oe) :: pn)) o a C d (.BoolOp .Or (y :: r) p) (fun x env => evX T.xs x c env) := by
      cases r with
      | nil => exact ⟨se_one q2.se, sw_or1 q2.st⟩
      | cons z r => exact ⟨q2.se, q2.sw _ _ _ rfl⟩
    have sw := sw_or q1.st k.2
    exact ⟨se_or (X := X.suite a ((a, oe) :: pn)) G.hK q1.se k.1, sw.st, fun _ _ _ _ => sw⟩
theorem sxs_args (G : GoodS w T fuel k N sc W X) (Z : Kls w T C) (hz : Zc (.ref C) d oe) (hf : ∃ vs, oe.data = .fields vs) (hN : N[o]? = some n) (hv : visB sc n = true) (hdb : notDbg n = true) : ∀ (es : List XE) (xs : List Expr), chkXEs T N sc n es xs = true → SA w T (X.suite a ((a, oe) :: pn)) o a C d xs (fun x env => evXs T.xs x es env)
  | [], xs, h => by
    cases xs with
    | cons _ _ => simp [chkXEs] at h
    | nil => simp only [evXs]; exact sa_nil
  | e :: es, xs, h => by
    cases xs with
    | nil => simp [chkXEs] at h
    | cons x xs =>
      have hst := (chkXEs_star h).1 x List.mem_cons_self
      simp only [chkXEs, Bool.and_eq_true] at h
      simp only [evXs]
      exact sa_cons hst (sx_of G Z hz hf hN hv hdb e _ h.1).se (sxs_args G Z hz hf hN hv hdb es _ h.2)
end
end
/-! ### statements of a suite -/
/-- what is wanted behind a suite's statements -/
def PostH (w : Wd) (T : Tab) (o : Nat) (a C : Addr) (d : Option Addr) (x : Exn) (D : Ends) (ρ : List Addr) (H : Hp) (r : RS) : Prop :=
  match r with
  | .nx env S => ∀ σ' ρ' H', Ext ρ H ρ' H' → RepE w ρ' H' env σ' → RepS w ρ' H' S → Hld w T o a C d x ρ' H' σ' → D.nx σ' H'
  | .rt v S => ∀ y ρ' H', Ext ρ H ρ' H' → RepV w ρ' H' v y → RepS w ρ' H' S → D.rt y H'
  | .bad => False
  | _ => True
theorem PostH.later {w : Wd} {T : Tab} {o : Nat} {a C : Addr} {d : Option Addr} {x : Exn} {D : Ends} {ρ ρ1 : List Addr} {H H1 : Hp} {r : RS} (e : Ext ρ H ρ1 H1) (h : PostH w T o a C d x D ρ H r) : PostH w T o a C d x D ρ1 H1 r := by
  cases r with
  | nx env S => exact fun σ' ρ' H' e1 => h σ' ρ' H' (e.trans e1)
  | rt v S => exact fun y ρ' H' e1 => h y ρ' H' (e.trans e1)
  | bad => exact h
  | _ => trivial
/-- how a suite's statement may end -/
def plainR : RS → Bool
  | .nx _ _ => true
  | .rt _ _ => true
  | .bad => true
  | _ => false
structure SD (w : Wd) (T : Tab) (X : Cx) (o : Nat) (a C : Addr) (d : Option Addr) (st : Stmt) (m : Exn → Env → Store → RS) : Prop where
  ex : ∃ t, PS X st t ∧ ∀ ρ σ H env S x (D : Ends), RepE w ρ H env σ → RepS w ρ H S → Hld w T o a C d x ρ H σ → PostH w T o a C d x D ρ H (m x env S) → t D σ H
structure SDs (w : Wd) (T : Tab) (X : Cx) (o : Nat) (a C : Addr) (d : Option Addr) (sts : List Stmt) (m : Exn → Env → Store → RS) : Prop where
  ex : ∃ t, PSs X sts t ∧ ∀ ρ σ H env S x (D : Ends), RepE w ρ H env σ → RepS w ρ H S → Hld w T o a C d x ρ H σ → PostH w T o a C d x D ρ H (m x env S) → t D σ H
section
variable {w : Wd} {T : Tab} {X : Cx} {o : Nat} {a C : Addr} {d : Option Addr}
theorem sd_ret {e : Expr} {m : Exn → Env → Option Val} {pos : Pos} (h : SE w T X o a C d e m) : SD w T X o a C d (.Return (some e) pos) (fun x env S => match m x env with | some v => .rt v S | none => .bad) := by
  obtain ⟨t, pt, q⟩ := h.ex
  refine ⟨_, ps_ret pt, fun ρ σ H env S x D re rs hh p => ?_⟩
  split at p
  · rename_i v hm
    exact q ρ σ H env S x _ v re rs hh hm fun y H1 e1 s1 r1 => p y ρ H1 e1 r1 s1
  · exact p.elim
theorem sd_pass {pos : Pos} : SD w T X o a C d (.Pass pos) (fun _ env S => .nx env S) := ⟨_, ps_pass, fun ρ σ H env S x D re rs hh p => p σ ρ H (Ext.refl _ _) re rs hh⟩
theorem sd_set {i : Nat} {y : Str} {e : Expr} {m : Exn → Env → Option Val} {px pos : Pos} (hnd : X.N.Nodup) (hi : X.N[i]? = some y) (hl : L2.Loc X.env.scope y) (hlo : X.env.scope.names.lookup y = some .local) (hne : i ≠ o) (hlc : isLc e = false) (h : SE w T X o a C d e m) :
    SD w T X o a C d (.Assign [.Name y px] e pos) (fun x env S => match m x env with | some v => .nx (envSet env i v) S | none => .bad) := by
  obtain ⟨t, pt, q⟩ := h.ex
  refine ⟨_, ps_set hnd hi hl pt (noLc hlc) (.inr hlo), fun ρ σ H env S x D re rs hh p => ?_⟩
  split at p
  · rename_i v hm
    refine q ρ σ H env S x _ v re rs hh hm fun y H1 e1 s1 r1 => ?_
    refine p _ ρ H1 e1 ((re.ext e1).set r1 i) s1 ⟨?_, (hh.ext e1).rep, hh.own⟩
    rw [List.getElem?_set_ne hne]
    exact hh.slot
  · exact p.elim
theorem sd_ife {c : Expr} {a1 b1 : List Stmt} {mc : Exn → Env → Option Val} {ma mb : Exn → Env → Store → RS} {pos : Pos} (hc : ST w T X o a C d c mc) (ha : SDs w T X o a C d a1 ma) (hb : SDs w T X o a C d b1 mb) :
    SD w T X o a C d (.If c a1 b1 pos) (fun x env S => match mc x env with | some (.bl true) => ma x env S | some (.bl false) => mb x env S | _ => .bad) := by
  obtain ⟨tc, pc, qc⟩ := hc.ex
  obtain ⟨ta, pa, qa⟩ := ha.ex
  obtain ⟨tb, pb, qb⟩ := hb.ex
  refine ⟨_, ps_if pc pa pb, fun ρ σ H env S x D re rs hh p => ?_⟩
  split at p
  · rename_i hm
    refine qc ρ σ H env S x _ _ re rs hh hm fun H1 e1 s1 => ?_
    rw [if_pos rfl]
    exact qa ρ σ H1 env S x D (re.ext e1) s1 (hh.ext e1) (p.later e1)
  · rename_i hm
    refine qc ρ σ H env S x _ _ re rs hh hm fun H1 e1 s1 => ?_
    rw [if_neg (by simp)]
    exact qb ρ σ H1 env S x D (re.ext e1) s1 (hh.ext e1) (p.later e1)
  · exact p.elim
theorem sds_nil : SDs w T X o a C d [] (fun _ env S => .nx env S) := ⟨_, pss_nil, fun ρ σ H env S x D re rs hh p => p σ ρ H (Ext.refl _ _) re rs hh⟩
theorem sds_cons {st : Stmt} {sts : List Stmt} {m : Exn → Env → Store → RS} {ms : Exn → Env → Store → RS} (h : SD w T X o a C d st m) (t : SDs w T X o a C d sts ms) : SDs w T X o a C d (st :: sts) (fun x env S => (m x env S).seq (ms x)) := by
  obtain ⟨t1, p1, q1⟩ := h.ex
  obtain ⟨t2, p2, q2⟩ := t.ex
  refine ⟨_, pss_cons p1 p2, fun ρ σ H env S x D re rs hh p => ?_⟩
  refine q1 ρ σ H env S x { D with nx := t2 D } re rs hh ?_
  cases e : m x env S with
  | nx env1 S1 =>
    rw [e] at p
    exact fun σ' ρ' H' e1 re' rs' hh' => q2 ρ' σ' H' env1 S1 x D re' rs' hh' (PostH.later (r := ms x env1 S1) e1 p)
  | rt v S1 => rw [e] at p; exact p
  | bad => rw [e] at p; exact p
  | _ => trivial
end
theorem chkXE_lc {T : Tab} {N : List Str} {sc : Scope} {n : Str} {e' : XE} {e : Expr} (h : chkXE T N sc n e' e = true) : isLc e = false := by
  cases e <;> first | rfl | (cases e' <;> simp [chkXE] at h)
section
variable {w : Wd} {T : Tab} {fuel k : Nat} {N : List Str} {sc : Scope} {W : WX} {X : Cx} {o : Nat} {a C : Addr} {oe : Obj} {d : Option Addr} {pn : List (Addr × Obj)} {n : Str}
mutual
theorem sd_of (G : GoodS w T fuel k N sc W X) (Z : Kls w T C) (hz : Zc (.ref C) d oe) (hf : ∃ vs, oe.data = .fields vs) (hN : N[o]? = some n) (hv : visB sc n = true) (hdb : notDbg n = true) : ∀ (i : XS) (st : Stmt), chkXS T N sc n o i st = true → SD w T (X.suite a ((a, oe) :: pn)) o a C d st (fun x env S => evXS T.xs x i env S)
  | .set i e, st, h => by
    cases st <;> first | (simp [chkXS] at h; done) | skip
    rename_i ts v p
    rcases ts with _ | ⟨x, ts⟩
    · simp [chkXS] at h
    cases x <;> first | (simp [chkXS] at h; done) | skip
    cases ts <;> first | (simp [chkXS] at h; done) | skip
    rename_i y py
    simp only [chkXS, Bool.and_eq_true, decide_eq_true_eq] at h
    obtain ⟨⟨⟨h1, h2⟩, h3⟩, h4⟩ := h
    simp only [evXS]
    have hlo : X.env.scope.names.lookup y = some .local := by rw [G.hsc]; exact pl_of h3
    exact sd_set (X := X.suite a ((a, oe) :: pn)) G.nd (by show X.N[i]? = _; rw [G.hN]; exact h1) (.inl hlo) hlo h2 (chkXE_lc h4) (sx_of G Z hz hf hN hv hdb e _ h4).se
  | .ret e, st, h => by
    cases st <;> first | (simp [chkXS] at h; done) | skip
    rename_i v p
    cases v <;> first | (simp [chkXS] at h; done) | skip
    simp only [chkXS] at h
    simp only [evXS]
    exact sd_ret (sx_of G Z hz hf hN hv hdb e _ h).se
  | .ife c x y, st, h => by
    cases st <;> first | (simp [chkXS] at h; done) | skip
    simp only [chkXS, Bool.and_eq_true] at h
    simp only [evXS]
    exact sd_ife (sx_of G Z hz hf hN hv hdb c _ h.1.1).st (sds_of G Z hz hf hN hv hdb x _ h.1.2) (sds_of G Z hz hf hN hv hdb y _ h.2)
  | .pass, st, h => by
    cases st <;> first | (simp [chkXS] at h; done) | skip
    simp only [evXS]
    exact sd_pass
theorem sds_of (G : GoodS w T fuel k N sc W X) (Z : Kls w T C) (hz : Zc (.ref C) d oe) (hf : ∃ vs, oe.data = .fields vs) (hN : N[o]? = some n) (hv : visB sc n = true) (hdb : notDbg n = true) : ∀ (i : XSs) (sts : List Stmt), chkXSs T N sc n o i sts = true → SDs w T (X.suite a ((a, oe) :: pn)) o a C d sts (fun x env S => evXSs T.xs x i env S)
  | .nil, sts, h => by
    cases sts with
    | cons _ _ => simp [chkXSs] at h
    | nil => simp only [evXSs]; exact sds_nil
  | .cons s ss, sts, h => by
    cases sts with
    | nil => simp [chkXSs] at h
    | cons st sts =>
      simp only [chkXSs, Bool.and_eq_true] at h
      simp only [evXSs]
      exact sds_cons (sd_of G Z hz hf hN hv hdb s _ h.1) (sds_of G Z hz hf hN hv hdb ss _ h.2)
end
end
/-! ### try .. except X as n -/
/-- a block's own reading -/
def tsOf (w : Wd) (W : WX) (m : Env → Store → RS) : TS := fun D σ H => ∃ ρ env S, RepE w ρ H env σ ∧ RepS w ρ H S ∧ PostS w W D ρ H (m env S)
/-- a suite's own reading -/
def txOf (w : Wd) (T : Tab) (o : Nat) (su : XSs) (a : Addr) (cls : Value) (d : Option Addr) : TS := fun D σ H => ∃ C ρ env S x, cls = .ref C ∧ RepE w ρ H env σ ∧ RepS w ρ H S ∧ Hld w T o a C d x ρ H σ ∧ PostH w T o a C d x D ρ H (evXSs T.xs x su env S)
theorem RepE.put {w : Wd} {ρ : List Addr} {H : Hp} {s : Option V} : ∀ {env : Env} {σ : L2.St} (i : Nat), RepE w ρ H env σ → RepE w ρ H (envDel env i) (σ.set i s)
  | [], _, i, h => by subst h; simp [envDel, RepE]
  | none :: env, _, 0, ⟨u, r, h1, h2⟩ => by subst h1; exact ⟨_, r, rfl, h2⟩
  | some u :: env, _, 0, ⟨_, r, h1, _, h3⟩ => by subst h1; exact ⟨_, r, rfl, h3⟩
  | none :: env, _, i + 1, ⟨u, r, h1, h2⟩ => by subst h1; exact ⟨u, _, rfl, RepE.put i h2⟩
  | some u :: env, _, i + 1, ⟨y, r, h1, h2, h3⟩ => by subst h1; exact ⟨y, _, rfl, h2, RepE.put i h3⟩
theorem RepE.len {w : Wd} {ρ : List Addr} {H : Hp} : ∀ {env : Env} {σ : L2.St}, RepE w ρ H env σ → σ.length = env.length
  | [], _, h => by subst h; rfl
  | none :: env, _, ⟨u, r, h1, h2⟩ => by subst h1; rw [List.length_cons, List.length_cons, RepE.len h2]
  | some u :: env, _, ⟨y, r, h1, _, h3⟩ => by subst h1; rw [List.length_cons, List.length_cons, RepE.len h3]
section
variable {w : Wd} {T : Tab} {fuel k : Nat} {N : List Str} {sc : Scope} {W : WX} {X : Cx} {o : Nat} {n : Str}
theorem GoodS.tr (G : GoodS w T fuel k N sc W X) {W' : WX} {pn : List (Addr × Obj)} {xe : Value → Shared → Prop} (tk : Takes (X.tr pn xe) W') (ps : PassesOwn (model X.prog X.w) X.A X.env xe) : GoodS w T fuel k N sc W' (X.tr pn xe) :=
  { hN := G.hN, nd := G.nd, hsc := G.hsc, hK := G.hK, calm := G.calm, room := G.room, grd := G.grd, tk := tk, hst := G.hst, fns := G.fns, globs := G.globs, gds := G.gds, blts := G.blts, cls := G.cls, ca := G.ca, isi := G.isi, ps := ps, kind := G.kind, stk := G.stk, frm := G.frm, gx := G.gx }
theorem suite_ok (G : GoodS w T fuel k N sc W X) {a : Addr} {oe : Obj} {cls : Value} {d : Option Addr} {pn : List (Addr × Obj)} (hz : Zc cls d oe) (hf : ∃ vs, oe.data = .fields vs) (hN : N[o]? = some n) (hv : visB sc n = true) (hdb : notDbg n = true) {su : XSs} {sts : List Stmt} (hc : chkXSs T N sc n o su sts = true) :
    PSs (X.suite a ((a, oe) :: pn)) sts (txOf w T o su a cls d) := by
  refine ⟨fun pins s σ H D I ⟨C, ρ, env, S, x, e, re, rs, hh, p⟩ => ?_⟩
  subst e
  have Z : Kls w T C := by
    have ho := hh.own
    unfold ownX at ho
    cases h1 : T.xs[x.cls]? with
    | none => rw [h1] at ho; cases ho
    | some dx =>
      rw [h1] at ho
      obtain ⟨_, z1, z2, z3, _⟩ := G.gx.own x.cls dx C h1 (own_or ho) (rep_exc hh.rep)
      exact ⟨z1, z2, z3⟩
  obtain ⟨t, pt, q⟩ := (sds_of (a := a) (pn := pn) G Z hz hf hN hv hdb su sts hc).ex
  exact pt.run pins s σ H D I (q ρ σ H env S x D re rs hh p)
theorem ds_tryx (G : GoodS w T fuel k N sc W X) {c : Nat} {b : List Stmt} {mb : Env → Store → RS} {e : Expr} {su : XSs} {s0 : Stmt} {ss : List Stmt} {hp pos : Pos} (hN : N[o]? = some n) (hl : plB sc n = true) (hv : visB sc n = true) (hdb : notDbg n = true) (hx : xnB T sc c e = true)
    (hb : ∀ W' X', GoodS w T fuel k N sc W' X' → DSs w W' X' b mb) (hc : chkXSs T N sc n o su (s0 :: ss) = true) :
    DS w W X (.Try b [.ExceptHandler (some e) (some n) (s0 :: ss) hp] [] [] pos) (fun env S => match mb env S with
      | .exc x env1 S1 => if ownX T.xs x.cls && decide (o < env1.length) then (if subX T.xs x.cls c then tidy o (evXSs T.xs x su (envDel env1 o) S1) else .exc x env1 S1) else .bad
      | r => r) := by
  obtain ⟨dx, v, u, te, k1, k2, k3, _, _, _, y, p0, rfl, k7⟩ := xnB_at (a := 0) (pn := []) G hx
  have hln : X.env.kindOf n = some .local := by
    have := pl_of hl
    unfold PySem.Env.kindOf
    rw [G.hsc]
    exact this
  refine ⟨_, ps_try_as (i := o) (tb := fun W' => tsOf w W' mb) (ts := fun a cls d => txOf w T o su a cls d) G.stk G.frm G.nd (by rw [G.hN]; exact hN) hln k7 G.tk (fun W' pn xe tk ps => ⟨fun pins s σ H D I ⟨ρ, env, S, re, rs, p⟩ => by
      obtain ⟨t, pt, q⟩ := (hb W' _ (G.tr tk ps)).ex
      exact pt.run pins s σ H D I (q ρ σ H env S D re rs p)⟩) (fun a oe cls d pn hz hf => suite_ok G hz hf hN hv hdb hc), fun ρ σ H env S D re rs p => ⟨ρ, env, S, re, rs, ?_⟩⟩
  cases q : mb env S with
  | nx env1 S1 => rw [q] at p; exact p
  | bk env1 S1 => rw [q] at p; exact p
  | ct env1 S1 => rw [q] at p; exact p
  | rt v1 S1 => rw [q] at p; exact p
  | bad => rw [q] at p; exact p
  | exc x env1 S1 =>
    rw [q] at p
    dsimp only at p
    split at p
    · rename_i ho
      simp only [Bool.and_eq_true, decide_eq_true_eq] at ho
      intro cls d σ' ρ' H' e1 rx re' rs'
      have hrx := rx
      obtain ⟨C, hC, rfl, _⟩ := rx
      have hk := (held_kit G.gx hC ho.1 k1 k2).2
      refine ⟨subX T.xs x.cls c, by rw [G.hK]; exact hk, fun hb1 a ha => ?_, fun hb0 => ?_⟩
      · rw [if_pos hb1] at p
        have sl : (σ'.set o (some (.ref a)))[o]? = some (some (.ref a)) := by
          rw [List.getElem?_set_self (by rw [re'.len]; exact ho.2)]
        refine ⟨C, ρ', envDel env1 o, S1, x, rfl, re'.put o, rs', ⟨sl, hrx, ho.1⟩, ?_⟩
        cases q2 : evXSs T.xs x su (envDel env1 o) S1 with
        | nx env2 S2 =>
          rw [q2] at p
          exact fun σ2 ρ2 H2 e2 re2 rs2 _ => p (σ2.set o none) ρ2 H2 (e1.trans e2) (re2.put o) rs2
        | rt v2 S2 =>
          rw [q2] at p
          exact fun y2 ρ2 H2 e2 rv2 rs2 => p y2 ρ2 H2 (e1.trans e2) rv2 rs2
        | bad => rw [q2] at p; exact p.elim
        | _ => trivial
      · rw [if_neg (by rw [hb0]; simp)] at p
        exact p (.ref C) d σ' ρ' H' e1 hrx re' rs'
    · exact p.elim
end
end Pd

/-! Pd, part 17: loops; each statement that is checked is kept. -/
namespace Pd
open PySem PySem.Spec L2

theorem forLoop_eq (src : Src) (put : Store → Val → Env → Option Env) (body : Env → Store → RS) (m i : Nat) (env : Env) (S : Store) : forLoop src put body m i env S = match src.at S i with
    | none => .bad
    | some none => .nx env S
    | some (some x) => match m with
      | 0 => .bad
      | n + 1 => match put S x env with
        | none => .bad
        | some env1 => match body env1 S with
          | .nx env2 S2 => forLoop src put body n (i + 1) env2 S2
          | .ct env2 S2 => forLoop src put body n (i + 1) env2 S2
          | .bk env2 S2 => .nx env2 S2
          | r => r := by
  cases m <;> (conv => lhs; unfold forLoop) <;> cases src.at S i with | none => rfl | some o => cases o <;> rfl
theorem whlLoop_eq (test : Env → M Bool) (body : Env → Store → RS) (m : Nat) (env : Env) (S : Store) : whlLoop test body m env S = (test env S).then env fun t S1 => if t then match m with
      | 0 => .bad
      | n + 1 => match body env S1 with
        | .nx env2 S2 => whlLoop test body n env2 S2
        | .ct env2 S2 => whlLoop test body n env2 S2
        | .bk env2 S2 => .nx env2 S2
        | r => r
    else .nx env S1 := by
  cases m <;> (conv => lhs; unfold whlLoop) <;> rfl

section
variable {w : Wd} {T : Tab} {fuel k : Nat} {N : List Str} {sc : Scope} {W : WX} {X : Cx}
/-- a turn's end: on, out, or away -/
theorem PostS.turn {D : Ends} {Nx : L2.St → Hp → Prop} {ρ : List Addr} {H : Hp} {r : RS} {next : Env → Store → RS} (h : PostS w W D ρ H (match r with
      | .nx env2 S2 => next env2 S2
      | .ct env2 S2 => next env2 S2
      | .bk env2 S2 => .nx env2 S2
      | r => r))
    (hn : ∀ env2 S2, PostS w W D ρ H (next env2 S2) → ∀ σ' ρ' H', Ext ρ H ρ' H' → RepE w ρ' H' env2 σ' → RepS w ρ' H' S2 → Nx σ' H') : PostS w W { D with nx := Nx, ct := Nx, bk := D.nx } ρ H r := by
  cases r with
  | nx env S => exact hn env S h
  | ct env S => exact hn env S h
  | bk env S => exact h
  | rt v S => exact h
  | exc x env S => exact h
  | bad => exact h
theorem ds_for (G : GoodS w T fuel k N sc W X) {t : IT} {tg ie : Expr} {body : List Stmt} {mi : Env → M Src} {mb : Env → Store → RS} {pos : Pos} (ht : chkT T N sc sc t tg = true) (hi : DI w W X tg ie mi) (hb : DSs w W X body mb) (hs : ∀ x, foldedSetIterable ie X.env x = pure x) :
    DS w W X (.For tg ie body [] pos) (fun env S => (mi env S).then env fun src S => forLoop src (fun S x e => evT S t x e) mb (src.len S) 0 env S) := by
  obtain ⟨ti, pi, qi⟩ := hi.ex
  obtain ⟨tb, pb, qb⟩ := hb.ex
  refine ⟨_, ps_for G.ps G.calm pi (pg_of G.toGood ht) pb hs, fun ρ σ H env S D re rs p => ?_⟩
  refine qi ρ σ H env S _ re rs ((PostS.bind re p).imp fun J H1 ⟨src, ρ1, S1, e1, r1, s1, re1, p1⟩ => ?_)
  refine ⟨fun i m σ' H' => ∃ ρk Sk env', Ext ρ1 H1 ρk H' ∧ RepS w ρk H' Sk ∧ RepE w ρk H' env' σ' ∧ PostS w W D ρk H' (forLoop src (fun S x e => evT S t x e) mb m i env' Sk), ⟨src.len S1, ρ1, S1, env, Ext.refl _ _, s1, re1, p1⟩, ?_⟩
  rintro i m σ2 H2 ⟨ρk, Sk, env2, ek, sk, rek, pk⟩
  rw [forLoop_eq] at pk
  obtain ⟨go1, go2⟩ := r1 ρk H2 Sk ek.wk sk i
  cases qa : src.at Sk i with
  | none => rw [qa] at pk; exact pk.elim
  | some o =>
    rw [qa] at pk
    cases o with
    | none => exact .inl ⟨go1 qa, pk.nx rek sk⟩
    | some x =>
      obtain ⟨go, gy⟩ := go2 x qa
      dsimp only at pk
      cases m with
      | zero => exact pk.elim
      | succ n =>
        dsimp only at pk
        cases qp : evT Sk t x env2 with
        | none => rw [qp] at pk; exact pk.elim
        | some env3 =>
          rw [qp] at pk
          refine .inr ⟨go, _, fun σ' H' nx => ⟨n, Nat.lt_succ_self n, nx⟩, fun v H3 yl => ?_⟩
          obtain ⟨ey, rv, sy⟩ := gy v H3 yl
          refine ⟨ρk, Sk, env2, env3, x, rek.ext ey, rv, sy, qp, fun σ' re' _ _ => qb ρk σ' H3 env3 Sk _ re' sy ?_⟩
          exact PostS.turn (PostS.later ey pk) fun env4 S4 p4 σ4 ρ4 H4 e4 re4 s4 => ⟨ρ4, S4, env4, (ek.trans ey).trans e4, s4, re4, p4.later e4⟩
theorem ds_whl (G : GoodS w T fuel k N sc W X) {c : Expr} {body : List Stmt} {mc : Env → M Bool} {mb : Env → Store → RS} {pos : Pos} {fu : Nat} (hc : DT w W X c mc) (hb : DSs w W X body mb) :
    DS w W X (.While c body [] pos) (fun env S => whlLoop mc mb fu env S) := by
  obtain ⟨tc, pc, qc⟩ := hc.ex
  obtain ⟨tb, pb, qb⟩ := hb.ex
  refine ⟨_, ps_while G.ps pc pb, fun ρ σ H env S D re rs p => ?_⟩
  refine ⟨fun m σ' H' => ∃ ρk Sk env', RepS w ρk H' Sk ∧ RepE w ρk H' env' σ' ∧ PostS w W D ρk H' (whlLoop mc mb m env' Sk), ⟨fu, ρ, S, env, rs, re, p⟩, ?_⟩
  rintro m σ2 H2 ⟨ρk, Sk, env2, sk, rek, pk⟩
  rw [whlLoop_eq] at pk
  refine qc ρk σ2 H2 env2 Sk _ rek sk ((PostS.bind (rel := fun _ _ a b => a = b) rek pk).imp fun b H3 ⟨v, ρ3, S3, e3, r3, s3, re3, p3⟩ => ?_)
  subst r3
  cases v with
  | false => exact PostS.nx p3 re3 s3
  | true =>
    rw [if_pos rfl] at p3 ⊢
    cases m with
    | zero => exact p3.elim
    | succ n =>
      refine ⟨_, fun σ' H' nx => ⟨n, Nat.lt_succ_self n, nx⟩, qb ρ3 σ2 H3 env2 S3 _ re3 s3 ?_⟩
      exact PostS.turn p3 fun env4 S4 p4 σ4 ρ4 H4 e4 re4 s4 => ⟨ρ4, S4, env4, s4, re4, p4.later e4⟩

theorem ds_rz (G : GoodS w T fuel k N sc W X) {c : Nat} {es : IEs} {e : Expr} {pos : Pos} (h : chkRz T N sc c es e = true) (ha : ∀ xs, chkEs T N sc es xs = true → DA w W X xs (evEs (T.C fuel k) es)) :
    DS w W X (.Raise (some e) none pos) (fun env S => if ownX T.xs c then (evEs (T.C fuel k) es env S).then env fun vs S => raiseR T.xs c vs env S else .bad) := by
  unfold chkRz at h
  split at h
  · rename_i x xp xs cp
    simp only [Bool.and_eq_true, decide_eq_true_eq] at h
    obtain ⟨⟨⟨⟨h1, h2⟩, h3⟩, h4⟩, h5⟩ := h
    cases xs with
    | nil => simp at h5
    | cons x xs => exact ds_raise G h1 h2 h3 (chkEs_star h4) (ha _ h4)
  · cases h
theorem ds_hs (G : GoodS w T fuel k N sc W X) {c o : Nat} {su : XSs} {b : List Stmt} {mb : Env → Store → RS} {hs : List ExceptHandler} {pos : Pos} (h : chkHs T N sc c o su hs = true) (hb : ∀ W' X', GoodS w T fuel k N sc W' X' → DSs w W' X' b mb) :
    DS w W X (.Try b hs [] [] pos) (fun env S => match mb env S with
      | .exc x env1 S1 => if ownX T.xs x.cls && decide (o < env1.length) then (if subX T.xs x.cls c then tidy o (evXSs T.xs x su (envDel env1 o) S1) else .exc x env1 S1) else .bad
      | r => r) := by
  unfold chkHs at h
  split at h
  · rename_i y n s0 ss hp
    simp only [Bool.and_eq_true, decide_eq_true_eq] at h
    obtain ⟨⟨⟨⟨⟨h2, h3⟩, h4⟩, h5⟩, h6⟩, h7⟩ := h
    exact ds_tryx G h3 h4 h5 h6 h2 hb h7
  · cases h
set_option maxHeartbeats 4000000 in
mutual
theorem ds_of : ∀ (i : IS) (st : Stmt) {W : WX} {X : Cx}, GoodS w T fuel k N sc W X → chkS T N sc i st = true → DS w W X st (evS (T.C fuel k) fuel i)
  | .set i e, st, W, X, G, h => by
    cases st <;> first | (simp [chkS] at h; done) | skip
    rename_i ts v p
    rcases ts with _ | ⟨x, ts⟩
    · simp [chkS] at h
    cases x <;> first | (simp [chkS] at h; done) | skip
    cases ts <;> first | (simp [chkS] at h; done) | skip
    rename_i x px
    simp only [chkS, Bool.and_eq_true, decide_eq_true_eq] at h
    simp only [evS]
    obtain ⟨⟨⟨h1, h2⟩, hc2⟩, h3⟩ := h
    by_cases hl : lcSwap sc x px v = true
    · rw [if_pos hl] at h3
      have h3 := hl
      cases e <;> cases v <;> first | (simp [chkE, chkLs, chkDv] at h2; done) | (simp [lcSwap] at hl; done) | (simp [isC2] at hc2; done) | skip
      · rename_i key el own t it c kxE eltE gs scope cp
        rcases gs with _ | ⟨⟨tg, ie, ifs, as⟩, _ | ⟨_, _⟩⟩ <;> first | (simp [chkE] at h2; done) | skip
        simp only [chkE, Bool.and_eq_true, List.all_eq_true, decide_eq_true_eq] at h2
        obtain ⟨⟨⟨⟨⟨⟨⟨⟨h0, a1⟩, atg⟩, a2⟩, a3⟩, a4⟩, a5⟩, a7⟩, a6⟩ := h2
        subst h0
        simp only [evE]
        refine ds_setDc G h1 h3 (blkOk_by a2) (di_of it _ tg G.toGood atg a1) a4 (fun i hi => by simpa using a3 i hi) (fun X' G' => ?_) (fun X' G' => (db_of key _ G' a7).de) (fun X' G' => (db_of el _ G' a6).de) (setIt_ok a1)
        cases c with
        | none =>
          cases ifs with
          | nil => exact .inl ⟨rfl, by simp only [evK]⟩
          | cons _ _ => simp [chkTO] at a5
        | some c =>
          rcases ifs with _ | ⟨f, _ | ⟨_, _⟩⟩ <;> first | (simp [chkTO] at a5; done) | skip
          simp only [chkTO] at a5
          simp only [evK]
          exact .inr ⟨f, rfl, (db_of c _ G' a5).dt⟩

      · rename_i el own t it c eltE gs scope cp
        rcases gs with _ | ⟨⟨tg, ie, ifs, as⟩, _ | ⟨_, _⟩⟩ <;> first | (simp [chkE] at h2; done) | skip
        simp only [chkE, Bool.and_eq_true, List.all_eq_true, decide_eq_true_eq] at h2
        obtain ⟨⟨⟨⟨⟨⟨⟨h0, a1⟩, atg⟩, a2⟩, a3⟩, a4⟩, a5⟩, a6⟩ := h2
        subst h0
        simp only [evE]
        refine ds_setLc G h1 h3 (blkOk_by a2) (di_of it _ tg G.toGood atg a1) a4 (fun i hi => by simpa using a3 i hi) (fun X' G' => ?_) (fun X' G' => (db_of el _ G' a6).de) (setIt_ok a1)
        cases c with
        | none =>
          cases ifs with
          | nil => exact .inl ⟨rfl, by simp only [evK]⟩
          | cons _ _ => simp [chkTO] at a5
        | some c =>
          rcases ifs with _ | ⟨f, _ | ⟨_, _⟩⟩ <;> first | (simp [chkTO] at a5; done) | skip
          simp only [chkTO] at a5
          simp only [evK]
          exact .inr ⟨f, rfl, (db_of c _ G' a5).dt⟩
    · rw [if_neg hl] at h3
      exact ds_set G h1 h3 (fun l => lcStay h2 G.hsc (by simpa using hl)) (db_of e _ G.toGood h2).de
  | .asg t e, st, W, X, G, h => by
    cases st <;> first | (simp [chkS] at h; done) | skip
    rename_i ts v p
    rcases ts with _ | ⟨x, ts⟩
    · simp [chkS] at h
    cases x <;> first | (simp [chkS] at h; done) | skip
    cases ts <;> first | (simp [chkS] at h; done) | skip
    simp only [chkS, Bool.and_eq_true, Bool.not_eq_true'] at h
    simp only [evS]
    exact ds_asg G h.1.1 h.2 (db_of e _ G.toGood h.1.2).de
  | .par i j a b, st, W, X, G, h => by
    cases st <;> first | (simp [chkS] at h; done) | skip
    rename_i ts wv p
    simp only [chkS] at h
    split at h
    · rename_i x px y py u v hp
      obtain ⟨k1, p1, k2, p2, rfl, rfl⟩ := parOf_inv hp
      simp only [Bool.and_eq_true, Bool.not_eq_true', decide_eq_true_eq] at h
      simp only [evS]
      obtain ⟨⟨⟨⟨⟨⟨⟨⟨⟨⟨h1, h2⟩, h3⟩, h4⟩, h5⟩, h6⟩, h7⟩, h8⟩, h9⟩, h10⟩, h11⟩ := h
      exact ds_par G h1 h2 h3 h4 h5 h6 h9 h10 h11 (fun x q z => by subst z; exact chkE_star h7) (fun x q z => by subst z; exact chkE_star h8) (db_of a _ G.toGood h7).de (db_of b _ G.toGood h8).de
    · cases h
  | .par3 i j l a b c, st, W, X, G, h => by
    cases st <;> first | (simp [chkS] at h; done) | skip
    rename_i ts wv p
    simp only [chkS] at h
    split at h
    · rename_i x px y py z pz u v q hp
      obtain ⟨x', px', y', py', z', pz', u', v', q', k1, p1, k2, p2, e1, e2, rfl, rfl⟩ := parOf3_inv hp
      simp only [List.cons.injEq, Prod.mk.injEq, and_true] at e1 e2
      obtain ⟨⟨rfl, rfl⟩, ⟨rfl, rfl⟩, rfl, rfl⟩ := e1
      obtain ⟨rfl, rfl, rfl⟩ := e2
      simp only [Bool.and_eq_true, Bool.not_eq_true', decide_eq_true_eq] at h
      simp only [evS]
      obtain ⟨⟨⟨⟨⟨⟨⟨⟨⟨⟨⟨⟨⟨⟨⟨⟨⟨⟨h1, h2⟩, h3⟩, h4⟩, h5⟩, h6⟩, h7⟩, h8⟩, h9⟩, h10⟩, h11⟩, h12⟩, h13⟩, h14⟩, h15⟩, h16⟩, h17⟩, h18⟩, h19⟩ := h
      exact ds_par3 G h1 h2 h3 h4 h5 h6 h7 h8 h9 h10 h11 h12 h16 h17 h18 h19 (fun x q z => by subst z; exact chkE_star h13) (fun x q z => by subst z; exact chkE_star h14) (fun x q z => by subst z; exact chkE_star h15) (db_of a _ G.toGood h13).de (db_of b _ G.toGood h14).de (db_of c _ G.toGood h15).de
    · cases h
  | .star ts i e, st, W, X, G, h => by
    cases st <;> first | (simp [chkS] at h; done) | skip
    rename_i tgs v p
    rcases tgs with _ | ⟨x, tgs⟩
    · simp [chkS] at h
    cases x <;> first | (simp [chkS] at h; done) | skip
    cases tgs <;> first | (simp [chkS] at h; done) | skip
    simp only [chkS] at h
    split at h
    · rename_i a x px ps b hp
      have e1 := starOf_inv hp
      simp only [Bool.and_eq_true, Bool.not_eq_true', decide_eq_true_eq] at h
      simp only [evS]
      rw [e1]
      exact ds_star G h.1.1.1.1 h.1.1.1.2 h.1.2 h.2 (db_of e _ G.toGood h.1.1.2).de
    · cases h
  | .aug i op e, st, W, X, G, h => by
    cases st <;> first | (simp [chkS] at h; done) | skip
    rename_i x o v p
    cases x <;> first | (simp [chkS] at h; done) | skip
    simp only [chkS, Bool.and_eq_true, decide_eq_true_eq] at h
    simp only [evS]
    exact ds_aug G h.1.2 h.1.1.1 h.1.1.2 (db_of e _ G.toGood h.2).de
  | .idx o k' e, st, W, X, G, h => by
    cases st <;> first | (simp [chkS] at h; done) | skip
    rename_i ts v p
    rcases ts with _ | ⟨x, ts⟩
    · simp [chkS] at h
    cases x <;> first | (simp [chkS] at h; done) | skip
    cases ts <;> first | (simp [chkS] at h; done) | skip
    simp only [chkS, Bool.and_eq_true, Bool.not_eq_true'] at h
    simp only [evS]
    exact ds_idx G (fun l u st p z => by subst z; exact chkE_slice h.1.1.2) h.2 (db_of o _ G.toGood h.1.1.1).de (db_of k' _ G.toGood h.1.1.2).de (db_of e _ G.toGood h.1.2).de
  | .fld o f e, st, W, X, G, h => by
    cases st <;> first | (simp [chkS] at h; done) | skip
    rename_i ts v p
    rcases ts with _ | ⟨x, ts⟩
    · simp [chkS] at h
    cases x <;> first | (simp [chkS] at h; done) | skip
    cases ts <;> first | (simp [chkS] at h; done) | skip
    simp only [chkS, Bool.and_eq_true, decide_eq_true_eq, Bool.not_eq_true'] at h
    obtain ⟨⟨⟨h1, h2⟩, h3⟩, h4⟩ := h
    replace h1 := h1.symm
    subst h1
    simp only [evS]
    exact ds_fld G h4 (db_of o _ G.toGood h2).de (db_of e _ G.toGood h3).de
  | .fld2 o f g e, st, W, X, G, h => by
    cases st <;> first | (simp [chkS] at h; done) | skip
    rename_i ts v p
    rcases ts with _ | ⟨x, ts⟩
    · simp [chkS] at h
    cases x <;> first | (simp [chkS] at h; done) | skip
    cases ts <;> first | (simp [chkS] at h; done) | skip
    rename_i es j tp
    simp only [chkS] at h
    split at h
    · rename_i x f' y g' ha
      obtain ⟨q1, q2, he⟩ := at2_inv ha
      simp only [Bool.and_eq_true, decide_eq_true_eq, Bool.not_eq_true'] at h
      obtain ⟨⟨⟨⟨⟨⟨h0, h1⟩, h2⟩, h3⟩, h4⟩, h5⟩, h6⟩ := h
      replace h0 := h0.symm
      replace h1 := h1.symm
      subst h0
      subst h1
      subst he
      simp only [evS]
      exact ds_fld2 G h5 h6 (db_of o _ G.toGood h2).de (db_of o _ G.toGood h3).de (db_of e _ G.toGood h4).de
    · cases h
  | .ex e, st, W, X, G, h => by
    cases st <;> first | (simp [chkS] at h; done) | skip
    simp only [chkS, Bool.and_eq_true, Bool.not_eq_true'] at h
    simp only [evS]
    exact ds_ex G h.2 (db_of e _ G.toGood h.1).de
  | .ret e, st, W, X, G, h => by
    cases st <;> first | (simp [chkS] at h; done) | skip
    rename_i v p
    cases v <;> first | (simp [chkS] at h; done) | skip
    simp only [chkS] at h
    simp only [evS]
    exact ds_ret (db_of e _ G.toGood h).de
  | .retN, st, W, X, G, h => by
    cases st <;> first | (simp [chkS] at h; done) | skip
    rename_i v p
    cases v <;> first | (simp [chkS] at h; done) | skip
    simp only [evS]
    exact ds_retN
  | .ife c a b, st, W, X, G, h => by
    cases st <;> first | (simp [chkS] at h; done) | skip
    simp only [chkS, Bool.and_eq_true] at h
    simp only [evS]
    exact ds_ife (db_of c _ G.toGood h.1.1).dt (dss_of a _ G h.1.2) (dss_of b _ G h.2)
  | .for_ t it b, st, W, X, G, h => by
    cases st <;> first | (simp [chkS] at h; done) | skip
    rename_i tg ie x el p
    cases el <;> first | (simp [chkS] at h; done) | skip
    simp only [chkS, Bool.and_eq_true] at h
    simp only [evS]
    exact ds_for G h.1.1.1 (di_of it _ tg G.toGood h.1.2 h.1.1.2) (dss_of b _ G h.2) (setIt_ok h.1.1.2)
  | .whl c b, st, W, X, G, h => by
    cases st <;> first | (simp [chkS] at h; done) | skip
    rename_i t x el p
    cases el <;> first | (simp [chkS] at h; done) | skip
    simp only [chkS, Bool.and_eq_true] at h
    simp only [evS]
    exact ds_whl G (db_of c _ G.toGood h.1).dt (dss_of b _ G h.2)
  | .pass, st, W, X, G, h => by
    cases st <;> first | (simp [chkS] at h; done) | skip
    simp only [evS]
    exact ds_pass
  | .brk, st, W, X, G, h => by
    cases st <;> first | (simp [chkS] at h; done) | skip
    simp only [evS]
    exact ds_brk
  | .cont, st, W, X, G, h => by
    cases st <;> first | (simp [chkS] at h; done) | skip
    simp only [evS]
    exact ds_cont
  | .rais, st, W, X, G, h => by
    cases st <;> first | (simp [chkS] at h; done) | skip
    simp only [evS]
    exact ⟨fun _ _ _ => False, ⟨fun pins s σ H D I h => h.elim⟩, fun ρ σ H env S D re rs p => p⟩
  | .raise c es, st, W, X, G, h => by
    cases st <;> first | (simp [chkS] at h; done) | skip
    rename_i e1 e2 p
    cases e1 <;> first | (simp [chkS] at h; done) | skip
    cases e2 <;> first | (simp [chkS] at h; done) | skip
    simp only [chkS] at h
    simp only [evS]
    exact ds_rz G h (fun xs q => da_of es xs G.toGood q)
  | .tryx body c o su, st, W, X, G, h => by
    cases st <;> first | (simp [chkS] at h; done) | skip
    rename_i b hs els fin p
    cases els <;> first | (simp [chkS] at h; done) | skip
    cases fin <;> first | (simp [chkS] at h; done) | skip
    simp only [chkS, Bool.and_eq_true] at h
    simp only [evS]
    exact ds_hs G h.2 (fun W' X' G' => dss_of body _ G' h.1)
theorem dss_of : ∀ (is : ISs) (sts : List Stmt) {W : WX} {X : Cx}, GoodS w T fuel k N sc W X → chkSs T N sc is sts = true → DSs w W X sts (evSs (T.C fuel k) fuel is)
  | .nil, sts, W, X, G, h => by
    cases sts with
    | cons _ _ => simp [chkSs] at h
    | nil => simp only [evSs]; exact dss_nil
  | .cons i is, sts, W, X, G, h => by
    cases sts with
    | nil => simp [chkSs] at h
    | cons st sts =>
      simp only [chkSs, Bool.and_eq_true] at h
      simp only [evSs]
      exact dss_cons (ds_of i _ G h.1) (dss_of is _ G h.2)
end
end
end Pd

/-! Pd, part 18: defs; the law's def called. -/
namespace Pd
open PySem PySem.Spec L2

/-! ### defs -/
/-- what the written part says of a def, and that d stands for it -/
structure DefAt (P : Program) (wo : World) (w : Wd) (mg : Str → Option Value) (T : Tab) (f : Nat) (d : FnD) : Prop where
  ex : ∃ (a : Addr) (name qual : Str) (params : Arguments) (body : List Stmt) (scope : Scope) (dV kV doc pm cdv ct oc : Value) (an od : Option Addr) (osl : Array (Option Value)),
    w.K.lookup a = some ⟨oc, od, .func (PySem.W.fnOf name qual params body scope dV kV doc pm an cdv ct), osl⟩ ∧ PySem.W.codeIn w.K cdv qual = true ∧ FnScope d.N (d.N.take d.np) scope ∧ (T.ini f = false → mg d.name = some (.ref a) ∧ PySem.W.keepIn w.K (.ref a) = true ∧
      Binds w.K (PySem.W.fnOf name qual params body scope dV kV doc pm an cdv ct) (d.N.take d.np) [] ∧
      ∀ (q : Nat) (v : KW), T.kws[q]? = some v → v.name = d.name → KBinds w.K (PySem.W.fnOf name qual params body scope dV kV doc pm an cdv ct) (d.N.take d.np) v.ks (permA v) (permA v)) ∧ chkSs T d.N scope d.body body = true ∧ d.np ≤ d.N.length ∧
      ∀ (c : Nat) (e : CD), T.cs[c]? = some e → e.f = f → IniAt w mg T a (PySem.W.fnOf name qual params body scope dV kV doc pm an cdv ct) (d.N.take d.np) c e
/-- the whole text's facts -/
structure TextOk (P : Program) (wo : World) (w : Wd) (mg : Str → Option Value) (T : Tab) : Prop where
  defs : ∀ (f : Nat) (d : FnD), T.fns[f]? = some d → DefAt P wo w mg T f d
  globs : ∀ (g : Nat) x v, T.globs[g]? = some (x, v) → ∃ u xv, mg x = some u ∧ RelV xv u ∧ ∀ ρ H, RepV w ρ H v xv
  gds : ∀ (g : Nat) x kvs, T.gds[g]? = some (x, kvs) → GdAt w wo mg x kvs
  blts : ∀ x ∈ T.blts, mg x = none
  cls : ∀ c C ns, w.cls c = some (C, ns) → ClsAt w.K C
  ca : CsAt w T mg
  isi : ∀ (t : Option Ty) (c : Ty) (u v : Value), c ∈ T.tys → tyVal w t = some u → tyVal w (some c) = some v → PySem.W.kitOne w.K u v = some (tyMatch t c)
  xc : GoodX w T mg

section
variable {P : Program} {wo : World} {w : Wd} {mg : Str → Option Value} {base : Heap} {T : Tab} {fuel k : Nat}
theorem repE_start {ρ : List Addr} {H : Hp} : ∀ {vs : List Val} {xs : List V} (n : Nat), RepVs w ρ H vs xs → RepE w ρ H (vs.map some ++ List.replicate n none) (xs.map some ++ List.replicate n none)
  | [], _, n, h => by
    simp only [RepVs] at h
    subst h
    induction n with
    | zero => simp [RepE]
    | succ n ih =>
      simp only [List.map_nil, List.nil_append, List.replicate_succ] at ih ⊢
      exact ⟨none, _, rfl, ih⟩
  | v :: vs, _, n, h => by
    simp only [RepVs] at h
    obtain ⟨x, r, rfl, h1, h2⟩ := h
    exact ⟨x, _, rfl, h1, repE_start n h2⟩
theorem stB_own {sc : Scope} {x : Str} (h : stB sc sc x = true) : L2.Loc sc x := by
  unfold stB at h
  split at h
  · rename_i e; exact .inl e
  · rename_i e; exact .inr e
  · cases h
theorem fn_at (t : TextOk P wo w mg T) (hf : ∀ (f : Nat) (d : FnD), T.fns[f]? = some d → FnAt P wo w mg base T fuel k f d) (f : Nat) (d : FnD) (hd : T.fns[f]? = some d) : FnAt P wo w mg base T fuel (k + 1) f d := by
  obtain ⟨a, name, qual, params, body, scope, dV, kV, doc, pm, cdv, ct, oc, an, od, osl, lk, hcd, S, hm, hc, hnp, hin⟩ := (t.defs f d hd).ex
  have hpl : (d.N.take d.np).length = d.np := by rw [List.length_take]; omega
  refine ⟨a, _, hm, ⟨fun vs H Q E ⟨d', ρ, s, args, e1, e2, e3, e4, _⟩ => ?_, fun A outer s H args us vs Q E hr hg e0 hbt r hsp => ?_⟩, hin⟩
  · rw [hd] at e1; cases e1
    rw [e2.length, hpl]; exact e4
  · obtain ⟨d', ρ, st, args', e1, e2, e3, e4, p⟩ := hsp
    rw [hd] at e1; cases e1
    have hl : vs.length = (d.N.take d.np).length := by rw [e2.length, hpl]; exact e4
    have KX : w.K.In s.heap := e0.mod.kin.keeps fun b o e => (e0.bs b o e).1
    have lim : s.heap.NoLimit := e0.mod.nolimit.keeps fun b o e => (e0.bs b o e).1
    have r1 : Room (2 * k + 2 + 1) A := hr.mono (by omega)
    refine codeAny_call_function r1.depth (KX _ _ lk) rfl S.co S.gen rfl (PySem.W.codeRec_of KX hcd) (hbt _ _ _ _ ?_)
    refine wpAny_newFunctionEnv_cells S.kind (fun ⟨n, v⟩ hy => ?_) fun env he s1 x => ?_
    · rcases S.par n (List.of_mem_zip hy).1 with q | q
      · exact .inl q
      · exact .inr ⟨q, PySem.W.cellsFrom_some _ _ _ (.inl q)⟩
    subst he
    refine ⟨lim.keeps x.toInCall.keep, codeAny_func ?_⟩
    have I := inv_start (CX := CX P wo) (E := E) S r1.hd e0 hl r x
    have G : GoodS w T fuel k d.N scope (fun c d _ H => E c d H) (cxOf (CX P wo) P wo w.K mg base d.N qual scope a cdv A outer s H E) :=
      { hN := rfl, nd := S.nd, hsc := rfl, hK := rfl, calm := rfl, room := r1.deeper _, grd := hg, tk := takes_of rfl rfl rfl rfl, hst := fun x h => ⟨stB_own h, .inl rfl⟩, fns := hf, globs := t.globs, gds := t.gds, blts := t.blts, cls := t.cls, ca := t.ca, isi := t.isi
        ps := passes_of rfl, kind := S.kind, stk := rfl, frm := rfl, gx := t.xc }
    obtain ⟨tt, pt, q⟩ := (dss_of d.body body G hc).ex
    have len : st.length = ρ.length := e3.len.symm
    have re := repE_start (w := w) (ρ := ρ) (H := H) (d.N.length - d.np) e2
    have hst : L2.start d.N vs = vs.map some ++ List.replicate (d.N.length - d.np) none := by
      unfold L2.start
      rw [hl, hpl]
    rw [hst] at I
    refine wpAny_mono (pt.run [] s1 _ H ⟨fun _ H' => Q .non H', Q, fun _ _ => False, fun _ _ => False⟩ I (q ρ _ H _ st _ re e3 ?_)) (fun fl s' hs => ?_) fun e s' hs => hs
    · unfold callF at p
      rw [hd] at p
      dsimp only at p
      rw [if_pos e4, len] at p
      cases z : evSs (T.C fuel k) fuel d.body (args'.map some ++ List.replicate (d.N.length - d.np) none) st with
      | nx env' S' =>
        rw [z] at p
        intro σ' ρ' H' e1 e2 e3
        obtain ⟨ρ2, x1, x2, x3⟩ := swept_ok (v := .non) (x := .non) e1 (by simp [RepV]) e3
        exact p _ _ _ x1 x2 x3
      | rt v S' =>
        rw [z] at p
        intro x ρ' H' e1 e2 e3
        obtain ⟨ρ2, x1, x2, x3⟩ := swept_ok e1 e2 e3
        exact p _ _ _ x1 x2 x3
      | exc y env' S' =>
        rw [z] at p
        exact fun c d' σ' ρ' H' e1 e2 _ e3 => p c d' ρ' H' e1 e2 e3
      | bk env' S' => rw [z] at p; exact p.elim
      | ct env' S' => rw [z] at p; exact p.elim
      | bad => rw [z] at p; exact p.elim
    · cases fl with
      | ret u =>
        obtain ⟨v, σ', H', J, rv, q⟩ := hs
        exact ⟨v, H', J.os, J.bare, J.base, J.hok, rv, q⟩
      | next =>
        obtain ⟨σ', H', J, q⟩ := hs
        exact ⟨.non, H', J.os, J.bare, J.base, J.hok, rfl, q⟩
      | brk => obtain ⟨_, _, _, q⟩ := hs; exact False.elim q
      | cont => obtain ⟨_, _, _, q⟩ := hs; exact False.elim q
theorem fns_ok (t : TextOk P wo w mg T) : ∀ (k f : Nat) (d : FnD), T.fns[f]? = some d → FnAt P wo w mg base T fuel k f d
  | 0, f, d, hd => by
    obtain ⟨a, name, qual, params, body, scope, dV, kV, doc, pm, cdv, ct, oc, an, od, osl, lk, hcd, S, hm, hc, hnp, hin⟩ := (t.defs f d hd).ex
    exact ⟨a, _, hm, ⟨fun vs H Q E ⟨d', ρ, s, args, e1, e2, e3, e4, e5⟩ => e5.elim, fun A outer s H args us vs Q E hr hg e0 hbt r ⟨d', ρ, st, args', e1, e2, e3, e4, e5⟩ => e5.elim⟩, hin⟩
  | k + 1, f, d, hd => fn_at t (fns_ok t k) f d hd
end
end Pd

/-! Pd, part 19: the law's def called on a script. -/
namespace Pd
open PySem PySem.Spec L2

section
variable {P : Program} {wo : World} {w : Wd} {mg mb : Str → Option Value} {T : Tab} {fuel k : Nat}
/-- the script, tracked apart -/
def scrHp (a : Addr) (o : Obj) (xs : List V) : Hp := fun b => if b = a then some (.frz o (.lst xs)) else none
theorem scrHp_at {a : Addr} {o : Obj} {xs : List V} : scrHp a o xs a = some (.frz o (.lst xs)) := if_pos rfl
theorem scrHp_inv {a b : Addr} {o : Obj} {xs : List V} {u : HO} (h : scrHp a o xs b = some u) : b = a ∧ u = .frz o (.lst xs) := by
  unfold scrHp at h
  split at h
  · rename_i e
    cases h
    exact ⟨e, rfl⟩
  · cases h
/-- what one needs of the abstract heap at the start -/
structure Begin (P : Program) (wo : World) (K : PySem.W.Frag) (mg : Str → Option Value) (s : Shared) (a : Addr) (xs : List V) (H : Hp) : Prop where
  env : Env0 P wo K mg (hidT s.heap H) callerA [] s H
  frz : ∀ b u, H b = some u → ∃ o, u = .frz o (.lst xs) ∧ s.heap.get? b = some o
  scr : (∃ o, H a = some (.frz o (.lst xs))) ∨ ∃ (o : Obj) (its : Array Value) (n : Nat), K.lookup a = some o ∧ o.cls = .type "list" ∧ o.dict = none ∧ o.data = .seq its n ∧ its.size ≤ sizeLine ∧ Vals xs its.toList
theorem begin_ok {K : PySem.W.Frag} {a : Addr} {s : Shared} {vs : List Value} {ns : List Int} (KX : K.In s.heap) (hns : s.heap.Ns mainGlobals mg) (hb : s.heap.Ns builtinsNs mb) (hbb : ∀ x : Str, x ≠ "__name__" → mb x = bootBuiltins x) (hlim : s.heap.NoLimit) (hg : s.gens = #[])
    (ha : s.heap.get? a = some { cls := .type "list", data := .seq vs.toArray }) (hi : PyProof.Rows.IntsAre vs ns) (hl : ns.length ≤ sizeLine) : ∃ H, Begin P wo K mg s a (ns.map V.int) H := by
  have rv := vals_ints hi
  have lenV := hi.length
  have main : ∀ H : Hp, (∀ b u, H b = some u → b = a ∧ u = .frz { cls := .type "list", data := .seq vs.toArray } (.lst (ns.map V.int))) → (∀ u, H a = some u → K.lookup a = none) →
      Env0 P wo K mg (hidT s.heap H) callerA [] s H ∧ ∀ b u, H b = some u → ∃ o, u = .frz o (.lst (ns.map V.int)) ∧ s.heap.get? b = some o := by
    intro H hH hK
    have dictOut : ∀ b o es ep, s.heap.get? b = some o → o.data = .dict es ep → H b = none := by
      intro b o es ep e d
      cases q : H b with
      | none => rfl
      | some u =>
        obtain ⟨rfl, _⟩ := hH b u q
        rw [ha] at e
        cases e
        cases d
    have nsH : ∀ b m, s.heap.Ns b m → (hidT s.heap H).Ns b m := by
      rintro b m ⟨o, es, ep, e, d, r⟩
      exact ⟨o, es, ep, hidT_get e (dictOut b o es ep e d), d, r⟩
    have kH : K.In (hidT s.heap H) := by
      intro b o e
      refine hidT_get (KX b o e) ?_
      cases q : H b with
      | none => rfl
      | some u =>
        obtain ⟨rfl, _⟩ := hH b u q
        rw [hK u q] at e
        cases e
    obtain ⟨mc, l1, l2⟩ := hlim
    refine ⟨⟨rfl, ⟨kH, nsH _ _ hns, ⟨mb, nsH _ _ hb, hbb⟩, ⟨mc, nsH _ _ l1, l2⟩⟩, fun b o e => of_hidT e, Nat.le_of_eq (hidT_size _ _), trivial, fun b z => absurd (show b ∈ ([] : List Addr) from z) (by simp), fun b u e => ?_, .of_eq hg⟩, fun b u e => ?_⟩
    · obtain ⟨rfl, rfl⟩ := hH b u e
      exact ⟨ha, by rw [List.length_map]; exact hl, vs, _, rv, ha⟩
    · obtain ⟨rfl, rfl⟩ := hH b u e
      exact ⟨_, rfl, ha⟩
  cases hk : K.lookup a with
  | none =>
    obtain ⟨m1, m2⟩ := main (scrHp a { cls := .type "list", data := .seq vs.toArray } (ns.map V.int)) (fun b u e => scrHp_inv e) fun _ _ => hk
    exact ⟨_, m1, m2, .inl ⟨_, scrHp_at⟩⟩
  | some o =>
    obtain ⟨m1, m2⟩ := main (fun _ => none) (fun b u e => nomatch e) fun u e => nomatch e
    have e := KX a o hk
    rw [ha] at e
    cases e
    exact ⟨_, m1, m2, .inr ⟨_, vs.toArray, _, hk, rfl, rfl, rfl, by rw [List.size_toArray, lenV]; exact hl, by simpa using rv⟩⟩

/-- the law's call -/
theorem law_run (t : TextOk P wo w mg T) {li : Nat} {d : FnD} (hni : T.ini li = false) (hd : T.fns[li]? = some d) (hnp : d.np = 1) {x : Str} (hx : d.N.take 1 = [x]) {a fa : Addr} {s : Shared} {vs : List Value} {ns : List Int} (hfa : mg d.name = some (.ref fa))
    (KX : w.K.In s.heap) (hns : s.heap.Ns mainGlobals mg) (hb : s.heap.Ns builtinsNs mb) (hbb : ∀ x : Str, x ≠ "__name__" → mb x = bootBuiltins x) (hlim : s.heap.NoLimit) (hg : s.gens = #[])
    (ha : s.heap.get? a = some { cls := .type "list", data := .seq vs.toArray }) (hi : PyProof.Rows.IntsAre vs ns) (hl : ns.length ≤ sizeLine) (hr : Room (2 * k + 1) callerA) {S' : Store} (hlaw : callF T fuel k li [.scr ns] [] = .ok (.bl true) S') :
    codeAny (model P wo) callerA (.call (.ref fa) ⟨[.ref a], []⟩) (fun r s' => r = .ok (.ret (.bool true)) ∧ OldK s.heap s'.heap ∧ s'.os = s.os ∧ PyProof.Rows.AllBare s'.gens) s := by
  obtain ⟨H, B⟩ := begin_ok (P := P) (wo := wo) KX hns hb hbb hlim hg ha hi hl
  obtain ⟨a', fd, hmk, F, _⟩ := (fns_ok (base := hidT s.heap H) (fuel := fuel) t k li d hd).ex
  obtain ⟨hm, hk, hbd, _⟩ := hmk hni
  rw [hfa] at hm
  cases hm
  have e1 : d.N.take d.np = [x] := by rw [hnp]; exact hx
  rw [e1] at hbd F
  have hbt : BindsTo s fd ⟨[.ref a], []⟩ ([x].zip [.ref a]) := by
    have := hbd s [.ref a] KX rfl
    simpa using this
  have rep : RepV w [] H (.scr ns) (.ref a) := by
    simp only [RepV]
    refine ⟨a, rfl, ?_⟩
    rcases B.scr with ⟨o, h⟩ | h
    · exact .inl ⟨by simp, o, h⟩
    · exact .inr h
  have sp : spOf w T fuel k li [.ref a] H (fun v _ => v = .bl true) (fun _ _ _ => False) := by
    refine ⟨d, [], [], [.scr ns], hd, ?_, ⟨rfl, List.nodup_nil, fun i b c h => by simp at h⟩, by rw [hnp]; rfl, ?_⟩
    · simp only [RepVs]
      exact ⟨_, _, rfl, rep, rfl⟩
    · rw [hlaw]
      intro x ρ' H' _ r _
      simpa only [RepV] using r
  refine codeAny_mono (F.run callerA [] s H ⟨[.ref a], []⟩ [.ref a] [.ref a] _ _ hr rfl B.env hbt (.cons rfl .nil) sp) fun r s' h => ?_
  cases r with
  | error e =>
    obtain ⟨_, _, _, _, _, _, _, _, _, _, _, _, z⟩ := h
    exact z.elim
  | ok fl =>
    cases fl with
    | next => exact False.elim h
    | brk => exact False.elim h
    | cont => exact False.elim h
    | ret u =>
      obtain ⟨v, H', os, bare, un, hok', r', q⟩ := h
      have q : v = .bl true := q
      subst q
      have e2 : u = Value.bool true := r'
      subst e2
      refine ⟨rfl, OldK.of_keep fun b o e => ?_, os, bare⟩
      cases q : H b with
      | none => exact un.keep b o e q (by intro z; exact absurd (show b ∈ ([] : List Addr) from z) (by simp)) (by simp)
      | some u =>
        obtain ⟨o2, rfl, e3⟩ := B.frz b u q
        rw [e] at e3
        cases e3
        obtain ⟨e4, _⟩ := hok' b _ (un.frzs b o _ q)
        exact e4
end
/-- the goal that the head leaves -/
theorem law_walk {l : PySem.W.OpenLaw} {n k fuel : Nat} {q : Program} {loose : List Str} {XP : (Str → Option Value) → Heap → Prop} {YP : World → Heap → Prop} {d : DefRec} {K : Params → PySem.W.Frag} {W : PySem.W.Frag → Wd} {T : Tab} {li : Nat} {fd : FnD} {x : Str}
    (hn : l.most = some n) (hn2 : n ≤ sizeLine) (hdf : d.params.defaults = []) (hr : Room (2 * k + 1) callerA) (hY : ∀ (w : World) (h : Heap), YP w h → (K w.params).In h) (hW : ∀ K, (W K).K = K)
    (hni : T.ini li = false) (hd : T.fns[li]? = some fd) (hnm : fd.name = d.name) (hnp : fd.np = 1) (hx : fd.N.take 1 = [x])
    (F : ∀ (w : World) (mg : Str → Option Value) (fa : Addr) (h : Heap), (K w.params).In h → h.Ns mainGlobals mg → mg d.name = some (.ref fa) → TextOk l.prog w (W (K w.params)) mg T)
    (hlaw : ∀ ns : List Int, ns.length ≤ n → ∃ S', callF T fuel k li [.scr ns] [] = .ok (.bl true) S') :
    PySem.W.WalkO q loose XP YP l.row.toRowW d [] (fun f vs => PySem.call f vs) := by
  refine Att.attach_call hn hdf fun w s₀ s₁ mg mb fa o pm cd doc a vs ns G Y ho hd' hcd hmg hobj hints hlen hg => ?_
  have KX := hY w _ Y
  have t := F w mg fa _ KX G.T.g hmg
  obtain ⟨S', e⟩ := hlaw ns hlen
  exact law_run t hni hd hnp hx (by rw [hnm]; exact hmg) (by rw [hW]; exact KX) G.T.g G.T.b G.T.builtins G.T.nolimit hg hobj hints (Nat.le_trans hlen hn2) hr e
end Pd

/-! Pd, part 20: what the head gives, put together. -/
namespace Pd
open PySem PySem.Spec L2

/-- where an own class stands -/
def xAdr (xs : List XD) (K : PySem.W.Frag) (c : Nat) : Option Addr := match xs[c]? with
  | some d => if d.ty.isNone then (match PySem.W.nsIn K mainGlobals d.name with
    | some (some (.ref C)) => some C
    | _ => none) else none
  | none => none
def cAdr (cs : List CD) (K : PySem.W.Frag) (c : Nat) : Option (Addr × List Str) := match cs[c]? with
  | some d => (match PySem.W.nsIn K mainGlobals d.name with
    | some (some (.ref C)) => some (C, d.flds)
    | _ => none)
  | none => none
abbrev xW (xs : List XD) (cs : List CD) (K : PySem.W.Frag) : Wd := ⟨K, cAdr cs K, fun c => xAdr xs K c⟩
/-- what a text's classes of instances are -/
structure GoodC (K : PySem.W.Frag) (mg : Str → Option Value) (ys : List XD) (T : Tab) : Prop where
  cls : ∀ c C ns, cAdr T.cs K c = some (C, ns) → ClsAt K C
  ca : CsAt (xW ys T.cs K) T mg
  isi : ∀ (t : Option Ty) (c : Ty) (u v : Value), c ∈ T.tys → tyVal (xW ys T.cs K) t = some u → tyVal (xW ys T.cs K) (some c) = some v → PySem.W.kitOne K u v = some (tyMatch t c)
theorem isi_flat {w : Wd} {K : PySem.W.Frag} : ∀ (t : Option Ty) (c : Ty) (u v : Value), (∀ i, t ≠ some (.own i)) → (∀ i, c ≠ .own i) → tyVal w t = some u → tyVal w (some c) = some v → PySem.W.kitOne K u v = some (tyMatch t c) := by
  intro t c u v ht hc hu hv
  cases c <;> simp only [tyVal] at hv <;> first | exact absurd rfl (hc _) | skip
  all_goals
    cases hv
    rcases t with _ | t
    · simp only [tyVal] at hu
      cases hu
      exact kit_ty (by decide +kernel)
    · cases t <;> simp only [tyVal] at hu <;> first | exact absurd rfl (ht _) | skip
      all_goals
        cases hu
        exact kit_ty (by decide +kernel)
theorem gc_nil {K : PySem.W.Frag} {mg : Str → Option Value} {ys : List XD} {T : Tab} (h : T.cs = []) : GoodC K mg ys T := by
  have hc : ∀ c, cAdr T.cs K c = none := fun c => by unfold cAdr; rw [h]; rfl
  refine ⟨fun c C ns e => (by rw [hc] at e; cases e), ⟨fun c C ns e => (by rw [show (xW ys T.cs K).cls c = cAdr T.cs K c from rfl, hc] at e; cases e), fun c d e => (by rw [h] at e; cases e), fun c d e => (by rw [h] at e; cases e)⟩, fun t c u v _ h1 h2 => isi_flat t c u v (fun i e => ?_) (fun i e => ?_) h1 h2⟩
  · subst e
    simp only [tyVal] at h1
    rw [hc] at h1; cases h1
  · subst e
    simp only [tyVal] at h2
    rw [hc] at h2; cases h2
def flatNs : List String := ["int", "bool", "str", "tuple", "list", "dict"]
theorem gc_one {K : PySem.W.Frag} {h : Heap} {mg : Str → Option Value} {ys : List XD} {T : Tab} {d : CD} {C : Addr} (X : K.In h) (G : h.Ns mainGlobals mg) (hcs : T.cs = [d]) (a : PySem.W.nsIn K mainGlobals d.name = some (some (.ref C))) (A : ClsAt K C) (nf : ∀ f ∈ d.flds, NoAttr K C f) (cn : T.cnames 0 = d.flds) (fn : ∃ e, T.fns[d.f]? = some e ∧ e.np ≠ 0)
    (k0 : PySem.W.kitOne K (.type "NoneType") (.ref C) = some false) (k1 : ∀ n ∈ flatNs, PySem.W.kitOne K (.type n) (.ref C) = some false) (k2 : ∀ n ∈ flatNs, PySem.W.kitOne K (.ref C) (.type n) = some false) (k3 : PySem.W.kitOne K (.ref C) (.ref C) = some true) : GoodC K mg ys T := by
  have h0 : cAdr T.cs K 0 = some (C, d.flds) := by unfold cAdr; rw [hcs]; show (match PySem.W.nsIn K mainGlobals d.name with | some (some (.ref C)) => some (C, d.flds) | _ => none) = _; rw [a]
  have h1 : ∀ c, cAdr T.cs K (c + 1) = none := fun c => by unfold cAdr; rw [hcs]; rfl
  have hc : ∀ c C' ns, cAdr T.cs K c = some (C', ns) → c = 0 ∧ C' = C ∧ ns = d.flds := fun c C' ns e => by
    cases c with
    | zero => rw [h0] at e; cases e; exact ⟨rfl, rfl, rfl⟩
    | succ c => rw [h1] at e; cases e
  have hd : ∀ (c : Nat) (e : CD), T.cs[c]? = some e → c = 0 ∧ e = d := fun c e q => by
    rw [hcs] at q
    cases c with
    | zero => cases q; exact ⟨rfl, rfl⟩
    | succ c => cases q
  refine ⟨fun c C' ns e => by obtain ⟨_, rfl, _⟩ := hc c C' ns e; exact A, ⟨fun c C' ns e => ?_, fun c e q => ?_, fun c e q => ?_⟩, fun t c u v _ hu hv => ?_⟩
  · obtain ⟨rfl, rfl, rfl⟩ := hc c C' ns e
    exact ⟨cn, nf⟩
  · obtain ⟨rfl, rfl⟩ := hd c e q
    exact ⟨C, h0, PySem.W.mg_of X G a⟩
  · obtain ⟨rfl, rfl⟩ := hd c e q
    exact fn
  · have own : ∀ i w', tyVal (xW ys T.cs K) (some (.own i)) = some w' → i = 0 ∧ w' = .ref C := fun i w' e => by
      have e : (cAdr T.cs K i).map (fun p => Value.ref p.1) = some w' := e
      cases q : cAdr T.cs K i with
      | none => rw [q] at e; cases e
      | some p =>
        rw [q] at e
        obtain ⟨e1, e2, _⟩ := hc i p.1 p.2 q
        cases e
        exact ⟨e1, congrArg Value.ref e2⟩
    have flat : ∀ (t : Ty) w', (∀ i, t ≠ .own i) → tyVal (xW ys T.cs K) (some t) = some w' → ∃ n ∈ flatNs, w' = .type n := fun t w' ht e => by
      cases t <;> simp only [tyVal] at e <;> first | exact absurd rfl (ht _) | (cases e; exact ⟨_, by decide, rfl⟩)
    by_cases hcO : ∃ i, c = .own i
    · obtain ⟨i, rfl⟩ := hcO
      obtain ⟨rfl, rfl⟩ := own i v hv
      by_cases htO : ∃ j, t = some (.own j)
      · obtain ⟨j, rfl⟩ := htO
        obtain ⟨rfl, rfl⟩ := own j u hu
        rw [k3]; rfl
      · rcases t with _ | t
        · simp only [tyVal] at hu
          cases hu
          rw [k0]; rfl
        · obtain ⟨n, hn, rfl⟩ := flat t u (fun i e => htO ⟨i, by rw [e]⟩) hu
          rw [k1 n hn]
          cases t <;> first | exact absurd ⟨_, rfl⟩ htO | rfl
    · by_cases htO : ∃ j, t = some (.own j)
      · obtain ⟨j, rfl⟩ := htO
        obtain ⟨rfl, rfl⟩ := own j u hu
        obtain ⟨n, hn, rfl⟩ := flat c v (fun i e => hcO ⟨i, e⟩) hv
        rw [k2 n hn]
        cases c <;> first | exact absurd ⟨_, rfl⟩ hcO | rfl
      · exact isi_flat t c u v (fun i e => htO ⟨i, e⟩) (fun i e => hcO ⟨i, e⟩) hu hv
section
variable {P : Program} {wo : World} {K : PySem.W.Frag} {h : Heap} {mg : Str → Option Value} {T : Tab} {ys : List XD} {zs : List CD}
theorem vals_perm {vs : List V} {us : List Value} (r : Vals vs us) : ∀ is : List Nat, Vals (is.filterMap fun i => vs[i]?) (is.filterMap fun i => us[i]?)
  | [] => .nil
  | i :: is => by
    have ih := vals_perm r is
    rw [List.filterMap_cons, List.filterMap_cons]
    cases e : vs[i]? with
    | some x =>
      obtain ⟨u, h1, h2⟩ := r.get e
      rw [h1]
      exact .cons h2 ih
    | none =>
      have : us[i]? = none := by
        rw [List.getElem?_eq_none_iff] at e ⊢
        rw [← r.length]; exact e
      rw [this]
      exact ih
theorem kb_of {K : PySem.W.Frag} {fd : FuncData} {ps : List Str} {v : KW} (hp : 0 < ps.length) (h : ∀ us ws : List Value, us.length = v.pos → ws.length = v.ks.length → bindArgs fd ⟨us, v.ks.zip ws⟩ = pure (ps.zip (permA v us ws))) : KBinds K fd ps v.ks (permA v) (permA v) where
  to := fun s us ws _ hl => by
    by_cases c : us.length = v.pos ∧ ws.length = v.ks.length
    · exact BindsTo.of_eq (h us ws c.1 c.2)
    · unfold permA at hl
      rw [if_neg c] at hl
      have hl : 0 = ps.length := hl
      omega
  rel := fun {vs us zs ws} r r' => by
    unfold permA
    rw [r.length, r'.length]
    split
    · exact vals_perm (Vals.append r r') _
    · exact .nil
theorem mk_def {d : FnD} {st : Stmt} {f : Addr} {oc kV dc pm cd ct : Value} {od an : Option Addr} {sl : Array (Option Value)} (X : K.In h) (G : h.Ns mainGlobals mg) (n : Str) (hn : d.name = n) (a : PySem.W.nsIn K mainGlobals n = some (some (.ref f)))
    (l : K.lookup f = some ⟨oc, od, .func (PySem.W.fnOf n n (defArgs st) (defBody st) (defScope st) .none kV dc pm an cd ct), sl⟩) (c : PySem.W.codeIn K cd n = true) (k : PySem.W.keepIn K (.ref f) = true) (S : FnScope d.N (d.N.take d.np) (defScope st)) {fi : Nat} (hni : T.ini fi = false)
    (hb : ∀ (kV doc pm : Value) (an : Option Addr) (cdv ct : Value) (us : List Value), us.length = (d.N.take d.np).length → bindArgs (PySem.W.fnOf n n (defArgs st) (defBody st) (defScope st) .none kV doc pm an cdv ct) ⟨us, []⟩ = pure ((d.N.take d.np).zip us))
    (hc : chkSs T d.N (defScope st) d.body (defBody st) = true) (hp : d.np ≤ d.N.length)
    (hkw : ∀ (q : Nat) (v : KW), T.kws[q]? = some v → v.name = n → 0 < (d.N.take d.np).length ∧ ∀ (kV doc pm : Value) (an : Option Addr) (cdv ct : Value) (us ws : List Value), us.length = v.pos → ws.length = v.ks.length → bindArgs (PySem.W.fnOf n n (defArgs st) (defBody st) (defScope st) .none kV doc pm an cdv ct) ⟨us, v.ks.zip ws⟩ = pure ((d.N.take d.np).zip (permA v us ws))) : DefAt P wo (xW ys zs K) mg T fi d :=
  ⟨f, n, n, defArgs st, defBody st, defScope st, .none, kV, dc, pm, cd, ct, oc, an, od, sl, l, c, S, fun _ => ⟨by rw [hn]; exact PySem.W.mg_of X G a, k, .all fun us hl => hb kV dc pm an cd ct us hl, fun q v e z => kb_of (hkw q v e (by rw [← hn]; exact z)).1 ((hkw q v e (by rw [← hn]; exact z)).2 kV dc pm an cd ct)⟩, hc, hp, fun c' e q z => by
    exfalso
    have : T.ini fi = true := List.any_eq_true.mpr ⟨e, List.mem_of_getElem? q, by simpa using z⟩
    rw [hni] at this
    cases this⟩
/-- __init__ of the one class -/
theorem mk_ini {d : FnD} {e : CD} {st : Stmt} {f C : Addr} {n qual : Str} {oc dV kV dc pm cdv ct : Value} {od an : Option Addr} {sl : Array (Option Value)} (X : K.In h) (G : h.Ns mainGlobals mg) (hcs : T.cs = [e]) (hz : zs = T.cs) (a : PySem.W.nsIn K mainGlobals e.name = some (some (.ref C))) (M : Mk K C f)
    (l : K.lookup f = some ⟨oc, od, .func (PySem.W.fnOf n qual (defArgs st) (defBody st) (defScope st) dV kV dc pm an cdv ct), sl⟩) (c : PySem.W.codeIn K cdv qual = true) (S : FnScope d.N (d.N.take d.np) (defScope st))
    (hc : chkSs T d.N (defScope st) d.body (defBody st) = true) (hp : d.np ≤ d.N.length)
    (hk : ∀ (q : Nat) (v : MW), T.mws[q]? = some v → v.c = 0 → ∃ g gV, KBn K (PySem.W.fnOf n qual (defArgs st) (defBody st) (defScope st) dV kV dc pm an cdv ct) (d.N.take d.np) (v.pos + 1) v.ks g gV ∧ ∀ (x : V) (us ws : List V), us.length = v.pos → ws.length = v.ks.length → gV (x :: us) ws = permM v litV (x :: us) ws) : DefAt P wo (xW ys zs K) mg T e.f d :=
  ⟨f, n, qual, defArgs st, defBody st, defScope st, dV, kV, dc, pm, cdv, ct, oc, an, od, sl, l, c, S, (fun hni => by
    exfalso
    have : T.ini e.f = true := List.any_eq_true.mpr ⟨e, by rw [hcs]; exact List.mem_cons_self, by simp⟩
    rw [hni] at this
    cases this), hc, hp, fun c' e' q z => by
    rw [hcs] at q
    cases c' with
    | succ c' => cases q
    | zero =>
      cases q
      refine ⟨C, ?_, PySem.W.mg_of X G a, M, hk⟩
      show cAdr zs K 0 = _
      rw [hz]
      unfold cAdr
      rw [hcs]
      show (match PySem.W.nsIn K mainGlobals e.name with | some (some (.ref C)) => some (C, e.flds) | _ => none) = _
      rw [a]⟩
theorem mk_kb {x qual : Str} {params : Arguments} {body : List Stmt} {scope : Scope} {dvs : List V} {kws : List (Str × V)} {f : Addr} {fd : FuncData} {ps : List Str} (F : FunD K x qual params body scope dvs kws f fd) (v : MW) (ms : List (Str × V)) (is : List Nat) (h1 : dvs ≠ []) (h2 : kws ≠ []) (h3 : ∀ q ∈ ms, q ∈ kws)
    (hc : ∀ (T D : Addr) (doc pm : Value) (an : Option Addr) (cdv ct : Value) (us its mv ws : List Value), us.length = v.pos + 1 → its.length = dvs.length → mv.length = ms.length → ws.length = v.ks.length → ∃ k, bindArgs (PySem.W.fnOf x qual params body scope (.ref T) (.ref D) doc pm an cdv ct) ⟨us, v.ks.zip ws⟩ = seqItems? (.ref T) >>= k ∧ KwChain D ((ms.map (·.1)).zip mv) (k (some its.toArray)) (ps.zip (us ++ is.filterMap fun i => (its ++ mv ++ ws)[i]?)))
    (he : ∀ (y : V) (us ws : List V), us.length = v.pos → ws.length = v.ks.length → (y :: us) ++ is.filterMap (fun i => (dvs ++ ms.map (·.2) ++ ws)[i]?) = permM v litV (y :: us) ws) :
    ∃ g gV, KBn K fd ps (v.pos + 1) v.ks g gV ∧ ∀ (y : V) (us ws : List V), us.length = v.pos → ws.length = v.ks.length → gV (y :: us) ws = permM v litV (y :: us) ws := by
  obtain ⟨its, mv, q⟩ := F.kbinds (ps := ps) (v.pos + 1) v.ks ms (fun us its mv ws => us ++ is.filterMap fun i => (its ++ mv ++ ws)[i]?) h1 h2 h3 (fun r1 r2 r3 r4 => Vals.append r1 (vals_perm (Vals.append (Vals.append r2 r3) r4) is)) hc
  exact ⟨_, _, q, he⟩

/-- a name of the text's top that stays -/
abbrev GlobAt (ys : List XD) (zs : List CD) (K : PySem.W.Frag) (mg : Str → Option Value) (x : Str) (v : Val) : Prop := ∃ u xv, mg x = some u ∧ RelV xv u ∧ ∀ ρ H, RepV (xW ys zs K) ρ H v xv
theorem mk_gs {n x : Str} {t : Tok} (X : K.In h) (G : h.Ns mainGlobals mg) (a : PySem.W.nsIn K mainGlobals n = some (some (.str x t))) : GlobAt ys zs K mg n (.str x) :=
  ⟨_, .str x, PySem.W.mg_of X G a, ⟨_, rfl⟩, fun ρ H => by simp [RepV]⟩
theorem mk_gi {n : Str} {i : Int} {t : Tok} (X : K.In h) (G : h.Ns mainGlobals mg) (a : PySem.W.nsIn K mainGlobals n = some (some (.int i t))) : GlobAt ys zs K mg n (.int i) :=
  ⟨_, .int i, PySem.W.mg_of X G a, ⟨_, rfl⟩, fun ρ H => by simp [RepV]⟩
/-- flat things as the machine has them -/
inductive FlatAt : Val → V → Value → Prop where
  | str (x : Str) (t : Tok) : FlatAt (.str x) (.str x) (.str x t)
  | int (i : Int) (t : Tok) : FlatAt (.int i) (.int i) (.int i t)
theorem mk_gt {n : Str} {g : Addr} {its : Array Value} {k : Nat} {sl : Array (Option Value)} {vs : List V} {xs : List Val} (X : K.In h) (G : h.Ns mainGlobals mg) (a : PySem.W.nsIn K mainGlobals n = some (some (.ref g)))
    (l : K.lookup g = some ⟨.type "tuple", none, .seq its k, sl⟩) (hz : its.size ≤ sizeLine) (rv : Vals vs its.toList) (rx : ∀ ρ H, RepVs (xW ys zs K) ρ H xs vs) : GlobAt ys zs K mg n (.tup xs) :=
  ⟨_, .ref g, PySem.W.mg_of X G a, rfl, fun ρ H => by
    simp only [RepV]
    exact ⟨g, vs, rfl, .inr ⟨_, its, k, l, rfl, rfl, hz, rv⟩, rx ρ H⟩⟩
theorem mk_gd {n : Str} {g : Addr} {es : Array DictEntry} {k : Nat} {kvs : List (Str × Val)} (X : K.In h) (G : h.Ns mainGlobals mg) (a : PySem.W.nsIn K mainGlobals n = some (some (.ref g)))
    (l : K.lookup g = some ⟨.type "dict", none, .dict es k, #[]⟩) (lit : PySem.W.KeysLit wo.params es.toList) (low : (g == sysModules) = false) (en : EntsAt (xW ys zs K) kvs es.toList) : GdAt (xW ys zs K) wo mg n kvs :=
  ⟨g, es, k, PySem.W.mg_of X G a, ⟨l, lit, low⟩, en⟩
theorem mk_text (hd : ∀ (f : Nat) (d : FnD), T.fns[f]? = some d → DefAt P wo (xW ys T.cs K) mg T f d) (hg : ∀ (g : Nat) x v, T.globs[g]? = some (x, v) → GlobAt ys T.cs K mg x v) (hgd : ∀ (g : Nat) x kvs, T.gds[g]? = some (x, kvs) → GdAt (xW ys T.cs K) wo mg x kvs) (hb : ∀ x ∈ T.blts, mg x = none) (hC : GoodC K mg ys T) (hx : GoodX (xW ys T.cs K) T mg) : TextOk P wo (xW ys T.cs K) mg T where
  defs := hd
  globs := hg
  gds := hgd
  blts := hb
  cls := hC.cls
  ca := hC.ca
  isi := hC.isi
  xc := hx
/-! ### classes of exceptions -/
theorem gx_nil (h : T.xs = []) : GoodX (xW ys zs K) T mg := ⟨fun c d e => (by rw [h] at e; cases e), fun c d C e => (by rw [h] at e; cases e)⟩
theorem xn_own {c : Nat} {d : XD} {C : Addr} (X : K.In h) (G : h.Ns mainGlobals mg) (hd : ys[c]? = some d) (ht : d.ty = none) (a : PySem.W.nsIn K mainGlobals d.name = some (some (.ref C))) : XnAt (xW ys zs K) mg c d := by
  unfold XnAt
  rw [ht]
  refine ⟨C, ?_, PySem.W.mg_of X G a⟩
  show xAdr ys K c = some C
  unfold xAdr
  rw [hd]
  dsimp only
  rw [ht, a]
  rfl
theorem xn_ty {c : Nat} {d : XD} {t : String} (X : K.In h) (G : h.Ns mainGlobals mg) (ht : d.ty = some t) (z : PySem.W.nsIn K mainGlobals d.name = some none) (hv : bootBuiltins d.name = some (.type t)) : XnAt (xW ys zs K) mg c d := by
  unfold XnAt
  rw [ht]
  exact ⟨PySem.W.mg_none_of X G z, hv⟩
theorem x_adr {c : Nat} {d : XD} {C C' : Addr} (hd : ys[c]? = some d) (ht : d.ty = none) (a : PySem.W.nsIn K mainGlobals d.name = some (some (.ref C))) (e : (xW ys zs K).exc c = some C') : C' = C := by
  have e : xAdr ys K c = some C' := e
  unfold xAdr at e
  rw [hd] at e
  dsimp only at e
  rw [ht, a] at e
  exact (Option.some.inj e).symm
theorem xv_own {c : Nat} {d : XD} {C : Addr} (hd : ys[c]? = some d) (ht : d.ty = none) (a : PySem.W.nsIn K mainGlobals d.name = some (some (.ref C))) : xVal (xW ys zs K) c d = some (.ref C) := by
  unfold xVal
  rw [ht]
  show (xAdr ys K c).map Value.ref = _
  unfold xAdr
  rw [hd]
  dsimp only
  rw [ht, a]
  rfl
theorem xv_ty {w : Wd} {c : Nat} {d : XD} {t : String} (ht : d.ty = some t) : xVal w c d = some (.type t) := by
  unfold xVal
  rw [ht]
/-- a class's __init__, its text -/
def initOf : Stmt → Stmt
  | .ClassDef (body := b) .. => b.getD 0 (.Pass ⟨0, 0, 0, 0⟩)
  | s => s
end
theorem exm_own {K : PySem.W.Frag} {t : Value} {C : Addr} {b : Bool} (ty : PySem.W.typeIn K (.ref C) = some (.type "type")) (sb : PySem.W.subIn K (.ref C) (.type "BaseException") = some true) (s : PySem.W.subIn K t (.ref C) = some b) : PySem.W.exmOne K t (.ref C) = some b := by
  unfold PySem.W.exmOne
  rw [sb, if_pos (by rfl)]
  have hc : (PySem.W.clsIn K C).isSome = true := by
    have sb' : PySem.W.mroIn K C (.type "BaseException") = some true := sb
    unfold PySem.W.mroIn at sb'
    cases h : PySem.W.clsIn K C with
    | none => rw [h] at sb'; cases sb'
    | some _ => rfl
  show (if ((PySem.W.clsIn K C).isSome && PySem.W.typeIn K (.ref C) == some (.type "type")) = true then PySem.W.subIn K t (.ref C) else none) = _
  rw [hc, ty, if_pos (by rfl), s]
theorem exm_typ {K : PySem.W.Frag} {t : Value} {T : String} {b : Bool} (sb : PySem.W.subIn [] (.type T) (.type "BaseException") = some true) (km : PySem.W.kitMeta T = true) (s : PySem.W.subIn K t (.type T) = some b) : PySem.W.exmOne K t (.type T) = some b := by
  unfold PySem.W.exmOne
  rw [show PySem.W.subIn K (.type T) (.type "BaseException") = some true from sb, if_pos (by rfl)]
  show (if PySem.W.kitMeta T = true then PySem.W.subIn K t (.type T) else none) = _
  rw [if_pos km, s]
end Pd

/-! Pd, part 21: reasoning about the evaluator. -/
namespace Pd
open PySem L2

def Ev {α : Type} (r : Res α) (Q : α → Store → Prop) : Prop := match r with
  | .ok a S => Q a S
  | _ => False
def Out (r : RS) (I : Env → Store → Prop) (R : Val → Store → Prop) : Prop := match r with
  | .nx e S => I e S
  | .rt v S => R v S
  | _ => False
section
variable {α β : Type}
theorem Ev.imp {r : Res α} {Q Q' : α → Store → Prop} (h : Ev r Q) (f : ∀ a S, Q a S → Q' a S) : Ev r Q' := by
  cases r <;> first | exact f _ _ h | exact h.elim
theorem Ev.get {r : Res α} {Q : α → Store → Prop} (h : Ev r Q) : ∃ a S, r = .ok a S ∧ Q a S := by
  cases r <;> first | exact ⟨_, _, rfl, h⟩ | exact h.elim
theorem Out.imp {r : RS} {I I' : Env → Store → Prop} {R R' : Val → Store → Prop} (h : Out r I R) (f : ∀ e S, I e S → I' e S) (g : ∀ v S, R v S → R' v S) : Out r I' R' := by
  cases r <;> first | exact f _ _ h | exact g _ _ h | exact h.elim
theorem ev_ok {a : α} {S : Store} {Q : α → Store → Prop} : Ev (.ok a S) Q = Q a S := rfl
theorem ev_bad {Q : α → Store → Prop} : Ev (.bad : Res α) Q = False := rfl
theorem ev_pure {a : α} {S : Store} {Q : α → Store → Prop} : Ev ((pure a : M α) S) Q = Q a S := rfl
theorem ev_bind {m : M α} {f : α → M β} {S : Store} {Q : β → Store → Prop} : Ev ((m >>= f) S) Q = Ev (m S) fun a S' => Ev (f a S') Q := by
  rw [bind_app]
  cases m S <;> rfl
theorem ev_need {b : Bool} {S : Store} {Q : Unit → Store → Prop} : Ev (need b S) Q = (b = true ∧ Q () S) := by
  unfold need
  cases b <;> simp [Ev]
theorem ev_ofOpt {o : Option α} {S : Store} {Q : α → Store → Prop} : Ev (ofOpt o S) Q = ∃ a, o = some a ∧ Q a S := by
  unfold ofOpt
  cases o <;> simp [Ev]
theorem ev_alloc {c : Cell} {S : Store} {Q : Val → Store → Prop} : Ev (alloc c S) Q = Q (.ref S.length) (S ++ [c]) := rfl
theorem ev_truth {v : Val} {S : Store} {Q : Bool → Store → Prop} : Ev (truthM v S) Q = ∃ b, truth S v = some b ∧ Q b S := by
  unfold truthM
  cases truth S v <;> simp [Ev]
theorem ev_noExc {m : M α} {S : Store} {Q : α → Store → Prop} : Ev (noExc m S) Q = Ev (m S) Q := by
  unfold noExc
  cases m S <;> rfl
theorem ev_ite {c : Prop} [Decidable c] {m n : M α} {S : Store} {Q : α → Store → Prop} : Ev ((if c then m else n) S) Q = if c then Ev (m S) Q else Ev (n S) Q := by
  split <;> rfl
theorem out_then {r : Res α} {env : Env} {f : α → Store → RS} {I : Env → Store → Prop} {R : Val → Store → Prop} : Out (r.then env f) I R = Ev r fun a S => Out (f a S) I R := by
  cases r <;> rfl
theorem out_nx {env : Env} {S : Store} {I : Env → Store → Prop} {R : Val → Store → Prop} : Out (.nx env S) I R = I env S := rfl
theorem out_rt {v : Val} {S : Store} {I : Env → Store → Prop} {R : Val → Store → Prop} : Out (.rt v S) I R = R v S := rfl
theorem out_seq {r : RS} {f : Env → Store → RS} {I : Env → Store → Prop} {R : Val → Store → Prop} : Out (r.seq f) I R = Out r (fun e S => Out (f e S) I R) R := by
  cases r <;> rfl
theorem out_ite {b : Bool} {r r' : RS} {I : Env → Store → Prop} {R : Val → Store → Prop} : Out (if b = true then r else r') I R = if b = true then Out r I R else Out r' I R := by
  cases b <;> rfl
end

/-- what a call leaves -/
theorem swept_at {n : Nat} {v : Val} {S : Store} {i : Nat} (h : i < n) : (swept n v S)[i]? = S[i]? := by
  unfold swept
  split
  · rw [List.getElem?_take_of_lt h]
  · rfl
theorem swept_le {n : Nat} {v : Val} {S : Store} (h : n ≤ S.length) : n ≤ (swept n v S).length := by
  unfold swept
  split
  · rw [List.length_take]; omega
  · exact h
theorem swept_same {n : Nat} {v : Val} {S : Store} (h : S.length = n) : swept n v S = S := by
  unfold swept
  split
  · rw [List.take_of_length_le (by omega)]
  · rfl
theorem swept_new {n r : Nat} {S : Store} (h : n ≤ r) : swept n (.ref r) S = S := by
  unfold swept
  rw [if_neg]
  simp only [refsLt, Bool.and_eq_true, decide_eq_true_eq]
  omega
/-- a call, by its body -/
theorem ev_call {T : Tab} {fuel k f : Nat} {args : List Val} {S : Store} {Q : Val → Store → Prop} {d : FnD} (hd : T.fns[f]? = some d) (hn : args.length = d.np)
    (h : Out (evSs (T.C fuel k) fuel d.body (args.map some ++ List.replicate (d.N.length - d.np) none) S) (fun _ S' => Q .non (swept S.length .non S')) (fun v S' => Q v (swept S.length v S'))) : Ev (callF T fuel (k + 1) f args S) Q := by
  unfold callF
  rw [hd]
  dsimp only
  rw [if_pos hn]
  revert h
  generalize evSs (T.C fuel k) fuel d.body (args.map some ++ List.replicate (d.N.length - d.np) none) S = r
  intro h
  cases r <;> first | exact h | exact h.elim

/-- a for over things that stay -/
theorem out_for {xs : List Val} {put : Store → Val → Env → Option Env} {body : Env → Store → RS} {R : Val → Store → Prop} {src : Src} (pair : Nat → Val → Val) (J : Nat → Env → Store → Prop) (hsrc : ∀ k env S, J k env S → src.at S k = some (xs[k]?.map (pair k)))
    (step : ∀ k x env S, xs[k]? = some x → J k env S → ∃ env1, put S (pair k x) env = some env1 ∧ Out (body env1 S) (J (k + 1)) R) :
    ∀ (n i : Nat) (env : Env) (S : Store), i + n = xs.length → J i env S → Out (forLoop src put body n i env S) (J xs.length) R := by
  intro n
  induction n with
  | zero =>
    intro i env S hi hJ
    rw [forLoop_eq, hsrc i env S hJ, List.getElem?_eq_none (by omega)]
    have e : i = xs.length := by omega
    rw [← e]
    exact hJ
  | succ n ih =>
    intro i env S hi hJ
    have hlt : i < xs.length := by omega
    have ex : xs[i]? = some xs[i] := List.getElem?_eq_getElem hlt
    obtain ⟨env1, h1, h2⟩ := step i _ env S ex hJ
    rw [forLoop_eq, hsrc i env S hJ, ex]
    dsimp only [Option.map]
    rw [h1]
    dsimp only
    cases q : body env1 S with
    | nx e2 S2 =>
      rw [q] at h2
      exact ih (i + 1) e2 S2 (by omega) h2
    | rt v S2 => rw [q] at h2; exact h2
    | bk e2 S2 => rw [q] at h2; exact h2.elim
    | ct e2 S2 => rw [q] at h2; exact h2.elim
    | exc x e2 S2 => rw [q] at h2; exact h2.elim
    | bad => rw [q] at h2; exact h2.elim
/-- a list comprehension over things that stay -/
theorem ev_comp {xs : List Val} {put : Store → Val → Option Env} {keep : Env → M Bool} {elt : Env → M Val} {src : Src} (pair : Nat → Val → Val) (J : Nat → List Val → Store → Prop) (hsrc : ∀ k acc S, J k acc S → src.at S k = some (xs[k]?.map (pair k)))
    (step : ∀ k x acc S, xs[k]? = some x → acc.length ≤ k → J k acc S → ∃ env1, put S (pair k x) = some env1 ∧ Ev (keep env1 S) fun b S1 => if b = true then Ev (elt env1 S1) fun v S2 => J (k + 1) (acc ++ [v]) S2 else J (k + 1) acc S1) (hz : xs.length ≤ sizeMax) :
    ∀ (n i : Nat) (acc : List Val) (S : Store), i + n = xs.length → acc.length ≤ i → J i acc S → Ev (compLoop src put keep elt n i acc S) fun l S' => J xs.length l S' ∧ l.length ≤ xs.length := by
  intro n
  induction n with
  | zero =>
    intro i acc S hi ha hJ
    rw [compLoop_eq, hsrc i acc S hJ, List.getElem?_eq_none (by omega)]
    have e : i = xs.length := by omega
    rw [← e]
    exact ⟨hJ, ha⟩
  | succ n ih =>
    intro i acc S hi ha hJ
    have hlt : i < xs.length := by omega
    have ex : xs[i]? = some xs[i] := List.getElem?_eq_getElem hlt
    obtain ⟨env1, h1, h2⟩ := step i _ acc S ex ha hJ
    rw [compLoop_eq, hsrc i acc S hJ, ex]
    dsimp only [Option.map]
    rw [h1]
    dsimp only
    rw [ev_bind]
    refine h2.imp fun b S1 h3 => ?_
    cases b with
    | false =>
      rw [if_neg Bool.false_ne_true] at h3 ⊢
      exact ih (i + 1) acc S1 (by omega) (by omega) h3
    | true =>
      rw [if_pos rfl] at h3 ⊢
      rw [ev_bind]
      refine h3.imp fun v S2 h4 => ?_
      rw [ev_bind, ev_need]
      refine ⟨by simpa using (show acc.length < sizeMax by omega), ih (i + 1) _ S2 (by omega) (by simp; omega) h4⟩
/-- a dict comprehension over things that stay -/
theorem ev_dcomp {xs : List Val} {put : Store → Val → Option Env} {keep : Env → M Bool} {key elt : Env → M Val} {src : Src} (pair : Nat → Val → Val) (J : Nat → List (DKey × Val) → Store → Prop) (hsrc : ∀ k acc S, J k acc S → src.at S k = some (xs[k]?.map (pair k)))
    (step : ∀ k x acc S, xs[k]? = some x → J k acc S → ∃ env1, put S (pair k x) = some env1 ∧ Ev (keep env1 S) fun b S1 => if b = true then Ev (key env1 S1) fun y S2 => Ev (elt env1 S2) fun v S3 => ∃ q, keyOf y = some q ∧ acc.length < sizeMax ∧ J (k + 1) (putV acc q v) S3 else J (k + 1) acc S1) :
    ∀ (n i : Nat) (acc : List (DKey × Val)) (S : Store), i + n = xs.length → J i acc S → Ev (dcompLoop src put keep key elt n i acc S) fun l S' => J xs.length l S' := by
  intro n
  induction n with
  | zero =>
    intro i acc S hi hJ
    rw [dcompLoop_eq, hsrc i acc S hJ, List.getElem?_eq_none (by omega)]
    have e : i = xs.length := by omega
    rw [← e]
    exact hJ
  | succ n ih =>
    intro i acc S hi hJ
    have hlt : i < xs.length := by omega
    have ex : xs[i]? = some xs[i] := List.getElem?_eq_getElem hlt
    obtain ⟨env1, h1, h2⟩ := step i _ acc S ex hJ
    rw [dcompLoop_eq, hsrc i acc S hJ, ex]
    dsimp only [Option.map]
    rw [h1]
    dsimp only
    rw [ev_bind]
    refine h2.imp fun b S1 h3 => ?_
    cases b with
    | false =>
      rw [if_neg Bool.false_ne_true] at h3 ⊢
      exact ih (i + 1) acc S1 (by omega) h3
    | true =>
      rw [if_pos rfl] at h3 ⊢
      rw [ev_bind]
      refine h3.imp fun y S2 h4 => ?_
      rw [ev_bind]
      refine h4.imp fun v S3 h5 => ?_
      obtain ⟨q, e1, e2, e3⟩ := h5
      rw [e1]
      dsimp only
      rw [ev_bind, ev_need]
      exact ⟨by simpa using e2, ih (i + 1) _ S3 (by omega) e3⟩
end Pd

/-! Pd, part 22: values that are trees, compared and shown. -/
namespace Pd
open PySem L2

mutual
/-- a tree of None, bools, ints, texts, tuples -/
def sim : Val → Bool
  | .non => true
  | .bl _ => true
  | .int _ => true
  | .str x => PyData.strOk x
  | .tup xs => sims xs
  | _ => false
def sims : List Val → Bool
  | [] => true
  | x :: xs => sim x && sims xs
end
mutual
def toD : Val → PyData
  | .non => .none
  | .bl b => .bool b
  | .int i => .int i
  | .str x => .str x
  | .tup xs => .tuple (toDs xs)
  | _ => .none
def toDs : List Val → List PyData
  | [] => []
  | x :: xs => toD x :: toDs xs
end
mutual
def vdep : Val → Nat
  | .tup xs => vdeps xs + 1
  | _ => 0
def vdeps : List Val → Nat
  | [] => 0
  | x :: xs => max (vdep x) (vdeps xs)
end
mutual
theorem dat_sim {S : Store} : ∀ (v : Val) (n : Nat), sim v = true → vdep v ≤ n → dat S n v = some (toD v)
  | .non, n, _, _ => by cases n <;> simp [dat, toD]
  | .bl _, n, _, _ => by cases n <;> simp [dat, toD]
  | .int _, n, _, _ => by cases n <;> simp [dat, toD]
  | .str _, n, _, _ => by cases n <;> simp [dat, toD]
  | .tup xs, n, h, hn => by
    simp only [sim] at h
    simp only [vdep] at hn
    cases n with
    | zero => omega
    | succ n =>
      unfold dat
      rw [dats_sim xs n h (by omega)]
      simp [toD]
  | .ins _ _, _, h, _ => by simp [sim] at h
  | .scr _, _, h, _ => by simp [sim] at h
  | .ref _, _, h, _ => by simp [sim] at h
theorem dats_sim {S : Store} : ∀ (vs : List Val) (n : Nat), sims vs = true → vdeps vs ≤ n → optMap (dat S n) vs = some (toDs vs)
  | [], n, _, _ => rfl
  | v :: vs, n, h, hn => by
    simp only [sims, Bool.and_eq_true] at h
    simp only [vdeps] at hn
    unfold optMap
    rw [dat_sim v n h.1 (by omega), dats_sim vs n h.2 (by omega)]
    rfl
end
mutual
theorem lay_sim : ∀ v : Val, sim v = true → (toD v).canLay0 = true ∧ (toD v).depth = vdep v
  | .non, _ => by simp [toD, PyData.canLay0, PyData.depth, vdep]
  | .bl _, _ => by simp [toD, PyData.canLay0, PyData.depth, vdep]
  | .int _, _ => by simp [toD, PyData.canLay0, PyData.depth, vdep]
  | .str x, h => by
    simp only [sim] at h
    simp [toD, PyData.canLay0, PyData.depth, vdep, h]
  | .tup xs, h => by
    simp only [sim] at h
    obtain ⟨a, b⟩ := lays_sim xs h
    simp [toD, PyData.canLay0, PyData.depth, vdep, a, b]
  | .ins _ _, h => by simp [sim] at h
  | .scr _, h => by simp [sim] at h
  | .ref _, h => by simp [sim] at h
theorem lays_sim : ∀ vs : List Val, sims vs = true → PyData.canLayAll0 (toDs vs) = true ∧ PyData.depthAll (toDs vs) = vdeps vs
  | [], _ => by simp [toDs, PyData.canLayAll0, PyData.depthAll, vdeps]
  | v :: vs, h => by
    simp only [sims, Bool.and_eq_true] at h
    obtain ⟨a, b⟩ := lay_sim v h.1
    obtain ⟨c, d⟩ := lays_sim vs h.2
    simp [toDs, PyData.canLayAll0, PyData.depthAll, vdeps, a, b, c, d]
end
theorem toDs_len : ∀ vs : List Val, (toDs vs).isEmpty = vs.isEmpty
  | [] => rfl
  | _ :: _ => rfl
theorem shaped_list {vs : List Val} (h : sims vs = true) (hd : vdeps vs ≤ 60) : SeqAt.shaped (.list (toDs vs)) = true := by
  obtain ⟨a, b⟩ := lays_sim vs h
  unfold SeqAt.shaped
  simp [PyData.canLay0, PyData.depth, a, b]
  omega
theorem shaped_sim {v : Val} (h : sim v = true) (hd : vdep v ≤ 60) : SeqAt.shaped (toD v) = true := by
  obtain ⟨a, b⟩ := lay_sim v h
  unfold SeqAt.shaped
  simp [a, b]
  omega
/-- a list of the store's as data -/
theorem dat_list {S : Store} {i n : Nat} {xs : List Val} (h : S[i]? = some (.lst xs)) (hs : sims xs = true) (hd : vdeps xs ≤ n) : dat S (n + 1) (.ref i) = some (.list (toDs xs)) := by
  unfold dat
  rw [h]
  dsimp only
  rw [dats_sim xs n hs hd]
  rfl
theorem eqvAll_nil : ∀ ds : List PyData, PyData.eqvAll ds [] = ds.isEmpty
  | [] => by simp [PyData.eqvAll]
  | _ :: _ => by simp [PyData.eqvAll]
/-- a list == [] -/
theorem eq_nil {S : Store} {i j : Nat} {xs : List Val} (h : S[i]? = some (.lst xs)) (hj : S[j]? = some (.lst [])) (hs : sims xs = true) (hd : vdeps xs ≤ 59) : eqV S (.ref i) (.ref j) = some xs.isEmpty := by
  unfold eqV
  dsimp only
  rw [dat_list (n := 59) h hs hd, dat_list (n := 59) (xs := []) hj rfl (by simp [vdeps])]
  dsimp only
  rw [shaped_list hs (by omega), shaped_list (vs := []) rfl (by simp [vdeps])]
  simp [PyData.eqv, toDs, eqvAll_nil, toDs_len]
theorem sims_ints (ns : List Int) : sims (ns.map .int) = true ∧ vdeps (ns.map .int) = 0 := by
  induction ns with
  | nil => exact ⟨rfl, rfl⟩
  | cons n ns ih => simp [sims, sim, vdeps, vdep, ih.1, ih.2]
theorem sims_append {xs ys : List Val} : sims (xs ++ ys) = (sims xs && sims ys) := by
  induction xs with
  | nil => rfl
  | cons x xs ih => simp [sims, ih, Bool.and_assoc]
theorem vdeps_append {xs ys : List Val} : vdeps (xs ++ ys) = max (vdeps xs) (vdeps ys) := by
  induction xs with
  | nil => simp [vdeps]
  | cons x xs ih => simp only [List.cons_append, vdeps, ih]; omega
end Pd

/-! Pd, part 23: steps of the evaluator, one by one. -/
namespace Pd
open PySem L2
section
variable {S : Store} {Q : Val → Store → Prop} {i j : Int} {d c : Nat} {xs ys : List Val} {v u : Val} {x y : Str}
theorem ev_add : Ev (binV .add (.int i) (.int j) S) Q = Q (.int (i + j)) S := rfl
theorem ev_sub : Ev (binV .sub (.int i) (.int j) S) Q = Q (.int (i - j)) S := rfl
theorem ev_mul (h : mulFits i j = true) : Ev (binV .mul (.int i) (.int j) S) Q = Q (.int (i * j)) S := by
  show Ev ((if mulFits i j then pure (.int (i * j)) else stuck : M Val) S) Q = _
  rw [if_pos h]; rfl
theorem ev_mod (h : j ≠ 0) : Ev (binV .mod (.int i) (.int j) S) Q = Q (.int (i.fmod j)) S := by
  show Ev ((if j ≠ 0 then pure (.int (i.fmod j)) else stuck : M Val) S) Q = _
  rw [if_pos h]; rfl
theorem ev_fdiv (h : divFits j = true) : Ev (binV .fdiv (.int i) (.int j) S) Q = Q (.int (i.fdiv j)) S := by
  show Ev ((if divFits j then pure (.int (i.fdiv j)) else stuck : M Val) S) Q = _
  rw [if_pos h]; rfl
theorem ev_pow (h : powFits i j = true) : Ev (binV .pow (.int i) (.int j) S) Q = Q (.int (i ^ j.toNat)) S := by
  show Ev ((if powFits i j then pure (.int (i ^ j.toNat)) else stuck : M Val) S) Q = _
  rw [if_pos h]; rfl
theorem ev_cat (h : x.length + y.length ≤ sizeMax) : Ev (binV .add (.str x) (.str y) S) Q = Q (.str (x ++ y)) S := by
  show Ev ((if x.length + y.length ≤ sizeMax then pure (.str (x ++ y)) else stuck : M Val) S) Q = _
  rw [if_pos h]; rfl
theorem ev_catT (h : xs.length + ys.length ≤ sizeMax) : Ev (binV .add (.tup xs) (.tup ys) S) Q = Q (.tup (xs ++ ys)) S := by
  show Ev ((if xs.length + ys.length ≤ sizeMax then pure (.tup (xs ++ ys)) else stuck : M Val) S) Q = _
  rw [if_pos h]; rfl
theorem ev_catL (h : S[c]? = some (.lst xs)) (h' : S[d]? = some (.lst ys)) (hz : xs.length + ys.length ≤ sizeMax) : Ev (binV .add (.ref c) (.ref d) S) Q = Q (.ref S.length) (S ++ [.lst (xs ++ ys)]) := by
  show Ev (catL c d S) Q = _
  unfold catL
  rw [h, h']
  dsimp only
  rw [if_pos hz]; rfl
theorem ev_repL (h : S[c]? = some (.lst xs)) (h0 : -(2 ^ 63) ≤ j) (h1 : j < 2 ^ 63) (hz : xs.length * j.toNat ≤ sizeMax) : Ev (binV .mul (.ref c) (.int j) S) Q = Q (.ref S.length) (S ++ [.lst (List.replicate j.toNat xs).flatten]) := by
  show Ev (repL c j S) Q = _
  unfold repL
  rw [h]
  dsimp only
  rw [if_pos (by simp only [Bool.and_eq_true, decide_eq_true_eq]; exact ⟨⟨h0, h1⟩, hz⟩)]; rfl
theorem ev_lt : Ev (cmpV .lt (.int i) (.int j) S) Q = Q (.bl (decide (i < j))) S := rfl
theorem ev_le : Ev (cmpV .le (.int i) (.int j) S) Q = Q (.bl (decide (i ≤ j))) S := rfl
theorem ev_gt : Ev (cmpV .gt (.int i) (.int j) S) Q = Q (.bl (decide (j < i))) S := rfl
theorem ev_ge : Ev (cmpV .ge (.int i) (.int j) S) Q = Q (.bl (decide (j ≤ i))) S := rfl
theorem ev_eqI : Ev (cmpV .eq (.int i) (.int j) S) Q = Q (.bl (decide (i = j))) S := rfl
theorem ev_neI : Ev (cmpV .ne (.int i) (.int j) S) Q = Q (.bl (!decide (i = j))) S := rfl
theorem ev_eqS : Ev (cmpV .eq (.str x) (.str y) S) Q = Q (.bl (decide (x = y))) S := rfl
theorem ev_neS : Ev (cmpV .ne (.str x) (.str y) S) Q = Q (.bl (!decide (x = y))) S := rfl
theorem ev_eq {b : Bool} (h : eqV S u v = some b) : Ev (cmpV .eq u v S) Q = Q (.bl b) S := by
  unfold cmpV
  dsimp only
  rw [h]; rfl
theorem ev_ne {b : Bool} (h : eqV S u v = some b) : Ev (cmpV .ne u v S) Q = Q (.bl (!b)) S := by
  unfold cmpV
  dsimp only
  rw [h]; rfl
theorem ev_in {b : Bool} (h : inV S u v = some b) : Ev (cmpV .isIn u v S) Q = Q (.bl b) S := by
  unfold cmpV
  dsimp only
  rw [h]; rfl
theorem ev_nin {b : Bool} (h : inV S u v = some b) : Ev (cmpV .notIn u v S) Q = Q (.bl (!b)) S := by
  unfold cmpV
  dsimp only
  rw [h]; rfl
theorem ev_tb {b : Bool} {Q : Bool → Store → Prop} : Ev (truthM (.bl b) S) Q = Q b S := rfl
theorem ev_idxL (h : S[d]? = some (.lst xs)) (ha : L2.atI xs i = some v) : Ev (idxV (.ref d) (.int i) S) Q = Q v S := by
  show Ev (idxStore d (.int i) S) Q = _
  unfold idxStore
  rw [h]
  dsimp only
  rw [ha]; rfl
theorem ev_idxD {kvs : List (DKey × Val)} {q : DKey} (h : S[d]? = some (.dct kvs)) (hk : keyOf u = some q) (ha : lookV kvs q = some v) : Ev (idxV (.ref d) u S) Q = Q v S := by
  show Ev (idxStore d u S) Q = _
  unfold idxStore
  rw [h]
  dsimp only
  rw [hk]
  dsimp only
  rw [ha]; rfl
theorem ev_idxT (ha : L2.atI xs i = some v) : Ev (idxV (.tup xs) (.int i) S) Q = Q v S := by
  show Ev (ofOpt (L2.atI xs i) S) Q = _
  rw [ha]; rfl
theorem ev_idxS {n : Nat} (hz : x.length ≤ sizeMax) (ha : L2.atI x.cps.toList i = some n) : Ev (idxV (.str x) (.int i) S) Q = Q (.str ⟨#[n]⟩) S := by
  show Ev ((if x.length ≤ sizeMax then ofOpt ((L2.atI x.cps.toList i).map fun c => Val.str ⟨#[c]⟩) else stuck : M Val) S) Q = _
  rw [if_pos hz, ha]; rfl
theorem ev_setL {Q : Unit → Store → Prop} {n : Nat} (h : S[d]? = some (.lst xs)) (hj : L2.ixN xs.length i = some n) : Ev (setV (.ref d) (.int i) v S) Q = Q () (S.set d (.lst (xs.set n v))) := by
  unfold setV
  dsimp only
  rw [h]
  dsimp only
  rw [hj]; rfl
theorem ev_setD {Q : Unit → Store → Prop} {kvs : List (DKey × Val)} {q : DKey} (h : S[d]? = some (.dct kvs)) (hk : keyOf u = some q) (hz : kvs.length < sizeMax) : Ev (setV (.ref d) u v S) Q = Q () (S.set d (.dct (putV kvs q v))) := by
  unfold setV
  dsimp only
  rw [h]
  dsimp only
  rw [hk]
  dsimp only
  rw [if_pos hz]; rfl
theorem ev_recv {m : Bm} {Q : Unit → Store → Prop} (h : recvB S m u = true) : Ev (recv m u S) Q = Q () S := by
  unfold recv
  rw [if_pos h]; rfl
theorem recv_lst {m : Bm} (hm : lm m = true) (h : S[d]? = some (.lst xs)) : recvB S m (.ref d) = true := by
  cases m <;> first | (cases hm; done) | (show isLstV S (.ref d) = true; unfold isLstV; dsimp only; rw [h])
theorem ev_pop (h : S[d]? = some (.lst xs)) (hv : xs[xs.length - 1]? = some v) : Ev (bmV .pop (.ref d) [] S) Q = Q v (S.set d (.lst xs.dropLast)) := by
  show Ev (popV d S) Q = _
  unfold popV
  rw [h]
  dsimp only
  rw [hv]; rfl
theorem ev_popAt {n : Nat} (h : S[d]? = some (.lst xs)) (h0 : -(2 ^ 63) ≤ i) (h1 : i < 2 ^ 63) (hn : seqIndex? i xs.length = some n) (hv : xs[n]? = some v) : Ev (bmV .popAt (.ref d) [.int i] S) Q = Q v (S.set d (.lst (xs.eraseIdx n))) := by
  show Ev (popAtV d i S) Q = _
  unfold popAtV
  rw [h]
  dsimp only
  rw [if_pos (by simp only [Bool.and_eq_true, decide_eq_true_eq]; exact ⟨h0, h1⟩), hn]
  dsimp only
  rw [hv]; rfl
theorem ev_append (h : S[d]? = some (.lst xs)) (hz : xs.length < sizeMax) : Ev (bmV .append (.ref d) [v] S) Q = Q .non (S.set d (.lst (xs ++ [v]))) := by
  show Ev (appendV d v S) Q = _
  unfold appendV
  rw [h]
  dsimp only
  rw [if_pos hz]; rfl
theorem ev_len {l : List Val} (h : seqOf S u = some l) : Ev (biV .len [u] S) Q = Q (.int l.length) S := by
  show Ev (lenV u S) Q = _
  unfold lenV
  cases u <;> first | (simp [seqOf] at h; done) | (dsimp only; rw [h]; rfl)
theorem ev_ite' {b : Bool} {α : Type} {m n : M α} {Q : α → Store → Prop} : Ev ((if b = true then m else n) S) Q = if b = true then Ev (m S) Q else Ev (n S) Q := by
  cases b <;> rfl
end
theorem set_at {S : Store} {d : Nat} {x y : Cell} (h : S[d]? = some y) : (S.set d x)[d]? = some x := by
  have := (List.getElem?_eq_some_iff.mp h).1
  rw [List.getElem?_set_self this]
theorem snoc_old {S : Store} {i : Nat} {x y : Cell} (h : S[i]? = some y) : (S ++ [x])[i]? = some y := by
  rw [List.getElem?_append_left (List.getElem?_eq_some_iff.mp h).1]; exact h
theorem snoc_new {S : Store} {x : Cell} : (S ++ [x])[S.length]? = some x := by simp
theorem at3_0 {a b c : Val} : L2.atI [a, b, c] 0 = some a := rfl
theorem at3_1 {a b c : Val} : L2.atI [a, b, c] 1 = some b := rfl
theorem at3_2 {a b c : Val} : L2.atI [a, b, c] 2 = some c := rfl
theorem small_fits {a b : Int} (h : -(2 ^ 64) < a ∧ a < 2 ^ 64 ∨ -(2 ^ 64) < b ∧ b < 2 ^ 64) : mulFits a b = true := by
  unfold mulFits intSmall
  simp only [Bool.or_eq_true, Bool.and_eq_true, decide_eq_true_eq]
  rcases h with h | h
  · exact .inl (.inl h)
  · exact .inl (.inr h)
theorem div_fits {b : Int} (h0 : b ≠ 0) (h : b.natAbs < 2 ^ 9000) : divFits b = true := by
  unfold divFits
  simp only [Bool.and_eq_true, decide_eq_true_eq]
  refine ⟨h0, ?_⟩
  exact (Nat.log2_lt (by omega)).mpr h
/-- the first cells stay -/
def Old (S S' : Store) : Prop := S.length ≤ S'.length ∧ ∀ i, i < S.length → S'[i]? = S[i]?
theorem Old.refl (S : Store) : Old S S := ⟨Nat.le_refl _, fun _ _ => rfl⟩
theorem Old.trans {S S1 S2 : Store} (a : Old S S1) (b : Old S1 S2) : Old S S2 := ⟨Nat.le_trans a.1 b.1, fun i h => (b.2 i (Nat.lt_of_lt_of_le h a.1)).trans (a.2 i h)⟩
theorem Old.snoc {S : Store} {x : Cell} : Old S (S ++ [x]) := ⟨by simp, fun j hj => by rw [List.getElem?_append_left hj]⟩
theorem Old.at {S S' : Store} {i : Nat} {x : Cell} (o : Old S S') (h : S[i]? = some x) : S'[i]? = some x := (o.2 i (List.getElem?_eq_some_iff.mp h).1).trans h
theorem Old.set {S S' : Store} {i : Nat} {x : Cell} (o : Old S S') (h : S.length ≤ i) : Old S (S'.set i x) := ⟨by simpa using o.1, fun j hj => by rw [List.getElem?_set_ne (by omega)]; exact o.2 j hj⟩
theorem Old.sweep {S S' : Store} {v : Val} (o : Old S S') : Old S (swept S.length v S') := ⟨swept_le o.1, fun i h => by rw [swept_at h]; exact o.2 i h⟩
theorem ev_tuple {S : Store} {Q : Val → Store → Prop} {u : Val} {l : List Val} (h : lstOf S u = some l) : Ev (biV .tuple [u] S) Q = Q (.tup l) S := by
  show Ev (tupF u S) Q = _
  unfold tupF
  cases u <;> first | (simp [lstOf] at h; done) | (dsimp only; rw [h]; rfl)
theorem lstOf_at {S : Store} {i : Nat} {l : List Val} (h : S[i]? = some (.lst l)) : lstOf S (.ref i) = some l := by
  unfold lstOf
  dsimp only
  rw [h]
theorem seqOf_at {S : Store} {i : Nat} {l : List Val} (h : S[i]? = some (.lst l)) : seqOf S (.ref i) = some l := by
  unfold seqOf
  dsimp only
  rw [h]
theorem ev_isin {S : Store} {Q : Val → Store → Prop} {ts : List Ty} {v : Val} : Ev (isinV ts v S) Q = Q (.bl (ts.any (tyMatch (tyV S v)))) S := rfl
theorem ev_srcL {S : Store} {Q : Src → Store → Prop} {i : Nat} {l : List Val} (h : S[i]? = some (.lst l)) : Ev (srcV (.ref i) S) Q = Q (.dyn i) S := by
  unfold srcV
  dsimp only
  rw [h]; rfl
theorem ev_srcT {S : Store} {Q : Src → Store → Prop} {l : List Val} : Ev (srcV (.tup l) S) Q = Q (.stat l) S := rfl
theorem ev_srcS {S : Store} {Q : Src → Store → Prop} {x : Str} : Ev (srcV (.str x) S) Q = Q (.stat (signs x)) S := rfl
theorem ev_enumT {S : Store} {Q : Src → Store → Prop} {l : List Val} : Ev (enumV (.tup l) S) Q = Q (.enumS l) S := rfl
theorem at_dyn {S : Store} {i k : Nat} {l : List Val} (h : S[i]? = some (.lst l)) : (Src.dyn i).at S k = some (l[k]?.map id) := by
  unfold Src.at
  dsimp only
  rw [h]
  simp
theorem len_dyn {S : Store} {i : Nat} {l : List Val} (h : S[i]? = some (.lst l)) : (Src.dyn i).len S = l.length := by
  unfold Src.len
  dsimp only
  rw [h]
theorem ev_lc {xs : List Val} {put : Store → Val → Option Env} {keep : Env → M Bool} {elt : Env → M Val} {src : Src} {S : Store} {Q : List Val → Store → Prop} (pair : Nat → Val → Val) (J : Nat → List Val → Store → Prop) (hlen : src.len S = xs.length) (hsrc : ∀ k acc S, J k acc S → src.at S k = some (xs[k]?.map (pair k)))
    (step : ∀ k x acc S, xs[k]? = some x → acc.length ≤ k → J k acc S → ∃ env1, put S (pair k x) = some env1 ∧ Ev (keep env1 S) fun b S1 => if b = true then Ev (elt env1 S1) fun v S2 => J (k + 1) (acc ++ [v]) S2 else J (k + 1) acc S1) (hz : xs.length ≤ sizeMax)
    (h0 : J 0 [] S) (hQ : ∀ l S', J xs.length l S' → l.length ≤ xs.length → Q l S') : Ev (noExc (fun S1 => compLoop src put keep elt (src.len S1) 0 [] S1) S) Q := by
  refine Eq.mpr (ev_noExc (m := fun S1 => compLoop src put keep elt (src.len S1) 0 [] S1)) ?_
  show Ev (compLoop src put keep elt (src.len S) 0 [] S) Q
  rw [hlen]
  exact (ev_comp pair J hsrc step hz xs.length 0 [] S (by omega) (by simp) h0).imp fun l S' h => hQ l S' h.1 h.2
theorem ev_dc {xs : List Val} {put : Store → Val → Option Env} {keep : Env → M Bool} {key elt : Env → M Val} {src : Src} {S : Store} {Q : List (DKey × Val) → Store → Prop} (pair : Nat → Val → Val) (J : Nat → List (DKey × Val) → Store → Prop) (hlen : src.len S = xs.length) (hsrc : ∀ k acc S, J k acc S → src.at S k = some (xs[k]?.map (pair k)))
    (step : ∀ k x acc S, xs[k]? = some x → J k acc S → ∃ env1, put S (pair k x) = some env1 ∧ Ev (keep env1 S) fun b S1 => if b = true then Ev (key env1 S1) fun y S2 => Ev (elt env1 S2) fun v S3 => ∃ q, keyOf y = some q ∧ acc.length < sizeMax ∧ J (k + 1) (putV acc q v) S3 else J (k + 1) acc S1)
    (h0 : J 0 [] S) (hQ : ∀ l S', J xs.length l S' → Q l S') : Ev (noExc (fun S1 => dcompLoop src put keep key elt (src.len S1) 0 [] S1) S) Q := by
  refine Eq.mpr (ev_noExc (m := fun S1 => dcompLoop src put keep key elt (src.len S1) 0 [] S1)) ?_
  show Ev (dcompLoop src put keep key elt (src.len S) 0 [] S) Q
  rw [hlen]
  exact (ev_dcomp pair J hsrc step xs.length 0 [] S (by omega) h0).imp fun l S' h => hQ l S' h
/-- a for, its length -/
theorem out_loop {xs : List Val} {put : Store → Val → Env → Option Env} {body : Env → Store → RS} {I : Env → Store → Prop} {R : Val → Store → Prop} {src : Src} {env : Env} {S : Store} (pair : Nat → Val → Val) (J : Nat → Env → Store → Prop) (hlen : src.len S = xs.length) (hsrc : ∀ k env S, J k env S → src.at S k = some (xs[k]?.map (pair k)))
    (step : ∀ k x env S, xs[k]? = some x → J k env S → ∃ env1, put S (pair k x) env = some env1 ∧ Out (body env1 S) (J (k + 1)) R) (h0 : J 0 env S) (hI : ∀ env S, J xs.length env S → I env S) : Out (forLoop src put body (src.len S) 0 env S) I R := by
  rw [hlen]
  exact (out_for pair J hsrc step xs.length 0 env S (by omega) h0).imp hI fun _ _ h => h
theorem ev_lcNe {S : Store} {Q : Val → Store → Prop} {i j : Nat} {xs : List Val} (h : S[i]? = some (.lst xs)) (hj : S[j]? = some (.lst [])) (hs : sims xs = true) (hd : vdeps xs ≤ 59) : Ev (cmpV .ne (.ref i) (.ref j) S) Q = Q (.bl (!xs.isEmpty)) S := ev_ne (eq_nil h hj hs hd)
end Pd

namespace K00
open PySem L2 Pd
/-! ### the text, in the small language -/
def top (i : Nat) : Stmt := PySem.Challenge.pw_pointhalls_k00_exacts_made_and_refused.main.body.getD i (.Pass ⟨0, 0, 0, 0⟩)
/-- is_whole -/
def f0 : FnD := ⟨"is_whole", ["thing"], 1,
  (.cons (.ret (.and (.isin (.var 0) [.int]) (.not (.isin (.var 0) [.bool]))))
    .nil)⟩
abbrev s0 : Stmt := top 19
/-- lowest -/
def f1 : FnD := ⟨"lowest", ["top", "bottom", "by", "one", "other"], 2,
  (.cons (.par 3 4 (.bi .abs (.cons (.var 0) .nil)) (.bi .abs (.cons (.var 1) .nil)))
    (.cons (.whl (.cmp .ne (.var 4) (.lit (.int 0)))
    (.cons (.par 3 4 (.var 4) (.bin .mod (.var 3) (.var 4)))
    .nil))
    (.cons (.set 2 (.ife (.cmp .gt (.var 1) (.lit (.int 0))) (.var 3) (.bin .sub (.lit (.int 0)) (.var 3))))
    (.cons (.ret (.tup (.cons (.bin .fdiv (.var 0) (.var 2)) (.cons (.bin .fdiv (.var 1) (.var 2)) .nil))))
    .nil))))⟩
abbrev s1 : Stmt := top 20
/-- whole_root -/
def f2 : FnD := ⟨"whole_root", ["number", "found", "lesser"], 1,
  (.cons (.ife (.cmp .lt (.var 0) (.lit (.int 2)))
    (.cons (.ret (.var 0))
    .nil)
    .nil)
    (.cons (.set 1 (.bin .shl (.lit (.int 1)) (.bin .fdiv (.bin .add (.bm .bitlen (.var 0) .nil) (.lit (.int 1))) (.lit (.int 2)))))
    (.cons (.set 2 (.bin .fdiv (.bin .add (.var 1) (.bin .fdiv (.var 0) (.var 1))) (.lit (.int 2))))
    (.cons (.whl (.cmp .lt (.var 2) (.var 1))
    (.cons (.set 1 (.var 2))
    (.cons (.set 2 (.bin .fdiv (.bin .add (.var 1) (.bin .fdiv (.var 0) (.var 1))) (.lit (.int 2))))
    .nil)))
    (.cons (.ret (.var 1))
    .nil)))))⟩
abbrev s2 : Stmt := top 21
/-- root_of -/
def f3 : FnD := ⟨"root_of", ["top", "bottom", "one", "other"], 2,
  (.cons (.par 2 3 (.call 2 (.cons (.var 0) .nil)) (.call 2 (.cons (.var 1) .nil)))
    (.cons (.ife (.or (.cmp .ne (.bin .mul (.var 2) (.var 2)) (.var 0)) (.cmp .ne (.bin .mul (.var 3) (.var 3)) (.var 1)))
    (.cons (.ret (.lit .non))
    .nil)
    .nil)
    (.cons (.ret (.tup (.cons (.var 2) (.cons (.var 3) .nil))))
    .nil)))⟩
abbrev s3 : Stmt := top 22
/-- sum_of -/
def f4 : FnD := ⟨"sum_of", ["one", "other"], 2,
  (.cons (.ret (.call 1 (.cons (.bin .add (.bin .mul (.idx (.var 0) (.lit (.int 0))) (.idx (.var 1) (.lit (.int 1)))) (.bin .mul (.idx (.var 1) (.lit (.int 0))) (.idx (.var 0) (.lit (.int 1))))) (.cons (.bin .mul (.idx (.var 0) (.lit (.int 1))) (.idx (.var 1) (.lit (.int 1)))) .nil))))
    .nil)⟩
abbrev s4 : Stmt := top 24
/-- are_right -/
def f5 : FnD := ⟨"are_right", ["top", "bottom", "sign", "over", "under", "one"], 5,
  (.cons (.ife (.not (.bi .all (.cons (.comp (.call 0 (.cons (.var 5) .nil)) [("one", 5)] (.name 5) (.val (.tup (.cons (.var 0) (.cons (.var 1) (.cons (.var 2) (.cons (.var 3) (.cons (.var 4) .nil))))))) .none) .nil)))
    (.cons (.ret (.lit (.bl false)))
    .nil)
    .nil)
    (.cons (.ret (.and (.cmp .gt (.var 1) (.lit (.int 0))) (.and (.cmp .gt (.var 4) (.lit (.int 0))) (.and (.cmp .ge (.var 3) (.lit (.int 0))) (.chain .le .le (.neg (.lit (.int 1))) (.var 2) (.lit (.int 1)))))))
    .nil))⟩
abbrev s5 : Stmt := top 26
/-- _law_deck -/
def f6 : FnD := ⟨"_law_deck", ["script", "cells"], 1,
  (.cons (.set 1 (.bi .list (.cons (.slc (.var 0) .none (.some (.lit (.int 63)))) .nil)))
    (.cons (.ret (.lst (.cons (.var 1) (.cons (.bin .add (.lit (.int 130043)) (.bin .mod (.bi .sum (.cons (.var 1) .nil)) (.lit (.int 2147483579)))) (.cons (.lit (.int 0)) .nil)))))
    .nil))⟩
abbrev s6 : Stmt := top 35
/-- _law_draw -/
def f7 : FnD := ⟨"_law_draw", ["deck", "many", "cells", "cell", "number"], 2,
  (.cons (.idx (.var 0) (.lit (.int 2)) (.bin .add (.idx (.var 0) (.lit (.int 2))) (.lit (.int 1))))
    (.cons (.set 2 (.idx (.var 0) (.lit (.int 0))))
    (.cons (.set 3 (.idx (.var 0) (.lit (.int 1))))
    (.cons (.ife (.cmp .ne (.var 2) (.lst .nil))
    (.cons (.set 3 (.bm .popAt (.var 2) (.cons (.lit (.int 0)) .nil)))
    (.cons (.ife (.cmp .ge (.var 3) (.bin .pow (.lit (.int 10)) (.lit (.int 18))))
    (.cons (.ex (.bm .insert (.var 2) (.cons (.lit (.int 0)) (.cons (.bin .fdiv (.var 3) (.var 1)) .nil))))
    (.cons (.ret (.bin .mod (.var 3) (.var 1)))
    .nil))
    .nil)
    (.cons (.set 3 (.bin .add (.var 3) (.idx (.var 0) (.lit (.int 1)))))
    .nil)))
    .nil)
    (.cons (.set 4 (.bin .mod (.bin .add (.bin .add (.bin .mul (.bin .mod (.var 3) (.lit (.int 2147483629))) (.lit (.int 48271))) (.bin .mul (.lit (.int 6997)) (.idx (.var 0) (.lit (.int 2))))) (.lit (.int 17))) (.lit (.int 2147483647))))
    (.cons (.set 4 (.bin .mod (.bin .add (.bin .add (.bin .mul (.var 4) (.var 4)) (.bin .mul (.lit (.int 69621)) (.var 4))) (.idx (.var 0) (.lit (.int 2)))) (.lit (.int 2147483587))))
    (.cons (.idx (.var 0) (.lit (.int 1)) (.var 4))
    (.cons (.ret (.bin .mod (.bin .fdiv (.bin .mod (.bin .mul (.var 4) (.bin .add (.var 4) (.lit (.int 40692)))) (.lit (.int 2147483563))) (.lit (.int 64))) (.var 1)))
    .nil))))))))⟩
abbrev s7 : Stmt := top 36
/-- _law_lowest -/
def f8 : FnD := ⟨"_law_lowest", ["upper", "lower", "one", "theirs"], 2,
  (.cons (.par 2 3 (.bi .abs (.cons (.var 0) .nil)) (.bi .abs (.cons (.var 1) .nil)))
    (.cons (.whl (.cmp .gt (.var 3) (.lit (.int 0)))
    (.cons (.par 2 3 (.var 3) (.bin .mod (.var 2) (.var 3)))
    .nil))
    (.cons (.set 2 (.idx (.lst (.cons (.var 2) (.cons (.bin .sub (.lit (.int 0)) (.var 2)) .nil))) (.bi .int (.cons (.cmp .lt (.var 1) (.lit (.int 0))) .nil))))
    (.cons (.ret (.tup (.cons (.bin .fdiv (.var 0) (.var 2)) (.cons (.bin .fdiv (.var 1) (.var 2)) .nil))))
    .nil))))⟩
abbrev s8 : Stmt := top 37
/-- _law_square_root -/
def f9 : FnD := ⟨"_law_square_root", ["number", "bit", "found"], 1,
  (.cons (.asg (.tup (.cons (.name 1) (.cons (.name 2) .nil))) (.tup (.cons (.lit (.int 1)) (.cons (.lit (.int 0)) .nil))))
    (.cons (.whl (.cmp .le (.bin .mul (.var 1) (.var 1)) (.var 0))
    (.cons (.set 1 (.bin .mul (.var 1) (.lit (.int 2))))
    .nil))
    (.cons (.whl (.cmp .gt (.var 1) (.lit (.int 0)))
    (.cons (.ife (.cmp .le (.bin .mul (.bin .add (.var 2) (.var 1)) (.bin .add (.var 2) (.var 1))) (.var 0))
    (.cons (.set 2 (.bin .add (.var 2) (.var 1)))
    .nil)
    .nil)
    (.cons (.set 1 (.bin .fdiv (.var 1) (.lit (.int 2))))
    .nil)))
    (.cons (.ret (.var 2))
    .nil))))⟩
abbrev s9 : Stmt := top 38
/-- _law_root -/
def f10 : FnD := ⟨"_law_root", ["pair", "one", "theirs", "number"], 1,
  (.cons (.asg (.tup (.cons (.name 1) (.cons (.name 2) .nil))) (.comp (.call 9 (.cons (.var 3) .nil)) [("number", 3)] (.name 3) (.val (.var 0)) .none))
    (.cons (.ret (.ife (.cmp .eq (.tup (.cons (.bin .mul (.var 1) (.var 1)) (.cons (.bin .mul (.var 2) (.var 2)) .nil))) (.var 0)) (.tup (.cons (.var 1) (.cons (.var 2) .nil))) (.lit .non)))
    .nil))⟩
abbrev s10 : Stmt := top 39
/-- _law_form -/
def f11 : FnD := ⟨"_law_form", ["upper", "lower", "mark", "aloft", "beneath", "radix", "root"], 5,
  (.cons (.set 5 (.call 8 (.cons (.var 3) (.cons (.var 4) .nil))))
    (.cons (.set 6 (.call 10 (.cons (.var 5) .nil)))
    (.cons (.ife (.cmp .notN (.var 6) (.lit .non))
    (.cons (.set 0 (.bin .add (.bin .mul (.var 0) (.idx (.var 6) (.lit (.int 1)))) (.bin .mul (.bin .mul (.var 2) (.idx (.var 6) (.lit (.int 0)))) (.var 1))))
    (.cons (.par 1 2 (.bin .mul (.var 1) (.idx (.var 6) (.lit (.int 1)))) (.lit (.int 0)))
    .nil))
    .nil)
    (.cons (.ife (.cmp .eq (.var 2) (.lit (.int 0)))
    (.cons (.set 5 (.tup (.cons (.lit (.int 0)) (.cons (.lit (.int 1)) .nil))))
    .nil)
    .nil)
    (.cons (.ret (.bin .add (.bin .add (.call 8 (.cons (.var 0) (.cons (.var 1) .nil))) (.tup (.cons (.var 2) .nil))) (.var 5)))
    .nil)))))⟩
abbrev s11 : Stmt := top 40
/-- _law_whole -/
def f12 : FnD := ⟨"_law_whole", ["deck", "some"], 1,
  (.cons (.set 1 (.lst (.cons (.lit (.int 0)) (.cons (.lit (.int 1)) (.cons (.lit (.int 2)) (.cons (.lit (.int 3)) (.cons (.lit (.int 9)) (.cons (.lit (.int 10)) (.cons (.lit (.int 99)) (.cons (.lit (.int 100)) (.cons (.lit (.int 999)) (.cons (.lit (.int 8999)) (.cons (.call 7 (.cons (.var 0) (.cons (.lit (.int 9000)) .nil))) (.cons (.call 7 (.cons (.var 0) (.cons (.lit (.int 30)) .nil))) .nil))))))))))))))
    (.cons (.ret (.idx (.var 1) (.call 7 (.cons (.var 0) (.cons (.lit (.int 12)) .nil)))))
    .nil))⟩
abbrev s12 : Stmt := top 41
/-- _law_five -/
def f13 : FnD := ⟨"_law_five", ["deck", "way", "upper", "lower", "mark", "free", "some", "many", "by", "aloft", "beneath"], 1,
  (.cons (.set 1 (.call 7 (.cons (.var 0) (.cons (.lit (.int 6)) .nil))))
    (.cons (.set 2 (.bin .mul (.call 12 (.cons (.var 0) .nil)) (.idx (.lst (.cons (.lit (.int 1)) (.cons (.neg (.lit (.int 1))) .nil))) (.call 7 (.cons (.var 0) (.cons (.lit (.int 2)) .nil))))))
    (.cons (.set 3 (.bin .add (.lit (.int 1)) (.call 7 (.cons (.var 0) (.cons (.idx (.lst (.cons (.lit (.int 1)) (.cons (.lit (.int 12)) (.cons (.lit (.int 8999)) .nil)))) (.call 7 (.cons (.var 0) (.cons (.lit (.int 3)) .nil)))) .nil)))))
    (.cons (.set 4 (.idx (.lst (.cons (.neg (.lit (.int 1))) (.cons (.lit (.int 1)) (.cons (.lit (.int 0)) .nil)))) (.bin .fdiv (.call 7 (.cons (.var 0) (.cons (.lit (.int 7)) .nil))) (.lit (.int 3)))))
    (.cons (.par 7 8 (.bin .add (.lit (.int 1)) (.call 7 (.cons (.var 0) (.cons (.lit (.int 30)) .nil)))) (.bin .add (.lit (.int 1)) (.call 7 (.cons (.var 0) (.cons (.lit (.int 12)) .nil)))))
    (.cons (.set 5 (.idx (.lst (.cons (.lit (.int 2)) (.cons (.lit (.int 3)) (.cons (.lit (.int 5)) (.cons (.lit (.int 6)) (.cons (.lit (.int 7)) (.cons (.lit (.int 10)) (.cons (.lit (.int 30)) (.cons (.lit (.int 8999)) .nil))))))))) (.call 7 (.cons (.var 0) (.cons (.lit (.int 8)) .nil)))))
    (.cons (.set 6 (.lst (.cons (.tup (.cons (.var 5) (.cons (.lit (.int 1)) .nil))) (.cons (.tup (.cons (.bin .mul (.var 7) (.var 7)) (.cons (.bin .mul (.var 8) (.var 8)) .nil))) (.cons (.tup (.cons (.bin .mul (.bin .mul (.var 5) (.var 8)) (.var 8)) (.cons (.bin .mul (.var 7) (.var 7)) .nil))) .nil)))))
    (.cons (.set 6 (.bin .add (.var 6) (.lst (.cons (.tup (.cons (.call 12 (.cons (.var 0) .nil)) (.cons (.var 8) .nil))) (.cons (.tup (.cons (.lit (.int 0)) (.cons (.var 8) .nil))) (.cons (.tup (.cons (.bin .mul (.var 7) (.var 5)) (.cons (.bin .mul (.var 8) (.var 5)) .nil))) .nil))))))
    (.cons (.asg (.tup (.cons (.name 9) (.cons (.name 10) .nil))) (.idx (.var 6) (.var 1)))
    (.cons (.ret (.tup (.cons (.var 2) (.cons (.var 3) (.cons (.var 4) (.cons (.bi .min2 (.cons (.var 9) (.cons (.lit (.int 999999)) .nil))) (.cons (.var 10) .nil)))))))
    .nil))))))))))⟩
abbrev s13 : Stmt := top 42
/-- _law_made -/
def f14 : FnD := ⟨"_law_made", ["five"], 1,
  (.cons (.ret (.mk 0 0 (.cons (.idx (.var 0) (.lit (.int 0))) (.cons (.idx (.var 0) (.lit (.int 1))) .nil)) (.cons (.idx (.var 0) (.lit (.int 2))) (.cons (.idx (.var 0) (.lit (.int 3))) (.cons (.idx (.var 0) (.lit (.int 4))) .nil)))))
    .nil)⟩
abbrev s14 : Stmt := top 44
/-- _law_fields -/
def f15 : FnD := ⟨"_law_fields", ["number"], 1,
  (.cons (.ret (.tup (.cons (.fld (.var 0) "top") (.cons (.fld (.var 0) "bottom") (.cons (.fld (.var 0) "sign") (.cons (.fld (.var 0) "over") (.cons (.fld (.var 0) "under") .nil)))))))
    .nil)⟩
abbrev s15 : Stmt := top 45
/-- _law_is -/
def f16 : FnD := ⟨"_law_is", ["found", "due"], 2,
  (.cons (.ret (.and (.isin (.var 0) [.own 0]) (.cmp .eq (.bi .repr (.cons (.call 15 (.cons (.var 0) .nil)) .nil)) (.bi .repr (.cons (.var 1) .nil)))))
    .nil)⟩
abbrev s16 : Stmt := top 46
/-- _law_by_names -/
def f17 : FnD := ⟨"_law_by_names", ["deck", "five"], 2,
  (.cons (.ife (.and (.cmp .eq (.slc (.var 1) (.some (.lit (.int 2))) .none) (.tup (.cons (.lit (.int 0)) (.cons (.lit (.int 0)) (.cons (.lit (.int 1)) .nil))))) (.cmp .eq (.idx (.var 1) (.lit (.int 1))) (.lit (.int 1))))
    (.cons (.ret (.idx (.lst (.cons (.mk 0 5 (.cons (.idx (.var 1) (.lit (.int 0))) .nil) .nil) (.cons (.mk 0 4 .nil (.cons (.idx (.var 1) (.lit (.int 0))) .nil)) .nil))) (.call 7 (.cons (.var 0) (.cons (.lit (.int 2)) .nil)))))
    .nil)
    .nil)
    (.cons (.ife (.cmp .eq (.slc (.var 1) (.some (.lit (.int 2))) .none) (.tup (.cons (.lit (.int 0)) (.cons (.lit (.int 0)) (.cons (.lit (.int 1)) .nil)))))
    (.cons (.ret (.mk 0 3 (.cons (.idx (.var 1) (.lit (.int 0))) .nil) (.cons (.idx (.var 1) (.lit (.int 1))) .nil)))
    .nil)
    .nil)
    (.cons (.ife (.cmp .eq (.idx (.var 1) (.lit (.int 4))) (.lit (.int 1)))
    (.cons (.ret (.mk 0 2 .nil (.cons (.idx (.var 1) (.lit (.int 1))) (.cons (.idx (.var 1) (.lit (.int 3))) (.cons (.idx (.var 1) (.lit (.int 2))) (.cons (.idx (.var 1) (.lit (.int 0))) .nil))))))
    .nil)
    .nil)
    (.cons (.ret (.mk 0 1 .nil (.cons (.idx (.var 1) (.lit (.int 4))) (.cons (.idx (.var 1) (.lit (.int 2))) (.cons (.idx (.var 1) (.lit (.int 1))) (.cons (.idx (.var 1) (.lit (.int 0))) (.cons (.idx (.var 1) (.lit (.int 3))) .nil)))))))
    .nil))))⟩
abbrev s17 : Stmt := top 47
/-- _law_is_right -/
def f18 : FnD := ⟨"_law_is_right", ["five", "one"], 1,
  (.cons (.for_ (.name 1) (.val (.var 0))
    (.cons (.ife (.or (.not (.isin (.var 1) [.int])) (.isin (.var 1) [.bool]))
    (.cons (.ret (.lit (.bl false)))
    .nil)
    .nil)
    .nil))
    (.cons (.ret (.and (.cmp .gt (.idx (.var 0) (.lit (.int 1))) (.lit (.int 0))) (.and (.cmp .gt (.idx (.var 0) (.lit (.int 4))) (.lit (.int 0))) (.and (.cmp .ge (.idx (.var 0) (.lit (.int 3))) (.lit (.int 0))) (.cmp .isIn (.idx (.var 0) (.lit (.int 2))) (.tup (.cons (.neg (.lit (.int 1))) (.cons (.lit (.int 0)) (.cons (.lit (.int 1)) .nil)))))))))
    .nil))⟩
abbrev s18 : Stmt := top 48
/-- _law_great -/
def f19 : FnD := ⟨"_law_great", ["deck", "some", "signs", "k"], 1,
  (.cons (.set 1 (.comp (.bin .sub (.bin .sub (.bin .pow (.lit (.int 10)) (.lit (.int 6))) (.lit (.int 1))) (.call 7 (.cons (.var 0) (.cons (.lit (.int 9)) .nil)))) [("k", 3)] (.name 3) (.range1 (.lit (.int 4))) .none))
    (.cons (.idx (.var 1) (.lit (.int 3)) (.bin .sub (.idx (.var 1) (.lit (.int 3))) (.lit (.int 20))))
    (.cons (.set 2 (.lst (.cons (.call 7 (.cons (.var 0) (.cons (.lit (.int 2)) .nil))) (.cons (.call 7 (.cons (.var 0) (.cons (.lit (.int 3)) .nil))) .nil))))
    (.cons (.ret (.tup (.cons (.bin .mul (.idx (.var 1) (.lit (.int 0))) (.idx (.lst (.cons (.lit (.int 1)) (.cons (.neg (.lit (.int 1))) .nil))) (.idx (.var 2) (.lit (.int 0))))) (.cons (.idx (.var 1) (.lit (.int 1))) (.cons (.bin .sub (.idx (.var 2) (.lit (.int 1))) (.lit (.int 1))) (.cons (.idx (.var 1) (.lit (.int 2))) (.cons (.idx (.var 1) (.lit (.int 3))) .nil)))))))
    .nil))))⟩
abbrev s19 : Stmt := top 49
/-- _law_odd -/
def f20 : FnD := ⟨"_law_odd", ["deck", "five", "at", "below", "far", "some"], 2,
  (.cons (.set 2 (.call 7 (.cons (.var 0) (.cons (.lit (.int 5)) .nil))))
    (.cons (.set 3 (.ife (.isin (.idx (.var 1) (.var 2)) [.int]) (.bin .sub (.lit (.int 0)) (.idx (.var 1) (.var 2))) (.lit (.int 3))))
    (.cons (.set 4 (.ife (.cmp .eq (.var 2) (.lit (.int 2))) (.bin .pow (.lit (.int 10)) (.lit (.int 39))) (.lit (.int 999999))))
    (.cons (.set 5 (.lst (.cons (.lit .non) (.cons (.lit (.bl true)) (.cons (.lit (.bl false)) (.cons (.lit (.str "1")) (.cons (.lit (.str "")) (.cons (.tup .nil) (.cons (.tup (.cons (.lit (.int 1)) .nil)) (.cons (.lst .nil) (.cons (.dsp .nil) (.cons (.neg (.lit (.int 1))) (.cons (.lit (.int 0)) (.cons (.lit (.int 2)) (.cons (.neg (.lit (.int 2))) .nil)))))))))))))))
    (.cons (.set 5 (.bin .add (.var 5) (.lst (.cons (.var 4) (.cons (.var 3) (.cons (.mk 0 5 (.cons (.lit (.int 1)) .nil) .nil) .nil))))))
    (.cons (.ret (.bin .add (.bin .add (.slc (.var 1) .none (.some (.var 2))) (.tup (.cons (.idx (.var 5) (.call 7 (.cons (.var 0) (.cons (.lit (.int 16)) .nil)))) .nil))) (.slc (.var 1) (.some (.bin .add (.var 2) (.lit (.int 1)))) .none)))
    .nil))))))⟩
abbrev s20 : Stmt := top 50
/-- _law_told -/
def f21 : FnD := ⟨"_law_told", ["five", "told", "e", "odd"], 1,
  (.cons (.set 1 (.lit .non))
    (.cons (.tryx (.cons (.set 1 (.call 15 (.cons (.call 14 (.cons (.var 0) .nil)) .nil)))
    .nil) 0 2 (.cons (.set 3 (.isi [7, 8, 9, 10, 11, 12, 13, 14, 15, 16])) (.cons (.set 3 (.or (.var 3) (.isi [3, 4, 5, 6]))) (.cons (.set 1 (.tup [(.lit (.str "refused")), (.and (.isi1 2) (.and (.isi1 1) (.not (.var 3))))])) .nil))))
    (.cons (.ret (.bi .repr (.cons (.var 1) .nil)))
    .nil)))⟩
abbrev s21 : Stmt := top 51
/-- law -/
def f22 : FnD := ⟨"law", ["script", "deck", "turn", "some", "due", "five", "built", "bent", "theirs", "own_due", "one"], 1,
  (.cons (.set 1 (.call 6 (.cons (.var 0) .nil)))
    (.cons (.for_ (.name 2) (.range1 (.lit (.int 16)))
    (.cons (.set 5 (.ife (.cmp .eq (.bin .mod (.var 2) (.lit (.int 5))) (.lit (.int 4))) (.call 19 (.cons (.var 1) .nil)) (.call 13 (.cons (.var 1) .nil))))
    (.cons (.set 4 (.call 11 (.cons (.idx (.var 5) (.lit (.int 0))) (.cons (.idx (.var 5) (.lit (.int 1))) (.cons (.idx (.var 5) (.lit (.int 2))) (.cons (.idx (.var 5) (.lit (.int 3))) (.cons (.idx (.var 5) (.lit (.int 4))) .nil)))))))
    (.cons (.for_ (.name 6) (.val (.tup (.cons (.call 14 (.cons (.var 5) .nil)) (.cons (.call 17 (.cons (.var 1) (.cons (.var 5) .nil))) (.cons (.call 17 (.cons (.var 1) (.cons (.var 4) .nil))) (.cons (.call 14 (.cons (.var 4) .nil)) .nil))))))
    (.cons (.ife (.not (.call 16 (.cons (.var 6) (.cons (.var 4) .nil))))
    (.cons (.ret (.lit (.bl false)))
    .nil)
    .nil)
    .nil))
    (.cons (.set 7 (.call 20 (.cons (.var 1) (.cons (.var 5) .nil))))
    (.cons (.for_ (.name 8) (.val (.tup (.cons (.var 7) (.cons (.call 20 (.cons (.var 1) (.cons (.var 7) .nil))) (.cons (.var 5) .nil)))))
    (.cons (.set 9 (.tup (.cons (.lit (.str "refused")) (.cons (.lit (.bl true)) .nil))))
    (.cons (.ife (.call 18 (.cons (.var 8) .nil))
    (.cons (.set 9 (.call 11 (.cons (.idx (.var 8) (.lit (.int 0))) (.cons (.idx (.var 8) (.lit (.int 1))) (.cons (.idx (.var 8) (.lit (.int 2))) (.cons (.idx (.var 8) (.lit (.int 3))) (.cons (.idx (.var 8) (.lit (.int 4))) .nil)))))))
    .nil)
    .nil)
    (.cons (.ife (.cmp .ne (.call 21 (.cons (.var 8) .nil)) (.bi .repr (.cons (.var 9) .nil)))
    (.cons (.ret (.lit (.bl false)))
    .nil)
    .nil)
    .nil))))
    .nil))))))
    (.cons (.set 3 (.lst (.cons (.mk 0 5 (.cons (.lit (.int 0)) .nil) .nil) (.cons (.mk 0 7 (.cons (.lit (.int 3)) (.cons (.lit (.int 6)) .nil)) .nil) (.cons (.mk 0 6 (.cons (.lit (.int 0)) .nil) (.cons (.lit (.int 1)) (.cons (.lit (.int 2)) .nil))) (.cons (.mk 0 0 (.cons (.lit (.int 1)) (.cons (.lit (.int 2)) .nil)) (.cons (.neg (.lit (.int 1))) (.cons (.lit (.int 9)) (.cons (.lit (.int 4)) .nil)))) .nil))))))
    (.cons (.set 4 (.lst (.cons (.tup (.cons (.lit (.int 0)) (.cons (.lit (.int 1)) (.cons (.lit (.int 0)) (.cons (.lit (.int 0)) (.cons (.lit (.int 1)) .nil)))))) (.cons (.tup (.cons (.lit (.int 1)) (.cons (.lit (.int 2)) (.cons (.lit (.int 0)) (.cons (.lit (.int 0)) (.cons (.lit (.int 1)) .nil)))))) (.cons (.tup (.cons (.lit (.int 0)) (.cons (.lit (.int 1)) (.cons (.lit (.int 1)) (.cons (.lit (.int 2)) (.cons (.lit (.int 1)) .nil)))))) (.cons (.tup (.cons (.neg (.lit (.int 1))) (.cons (.lit (.int 1)) (.cons (.lit (.int 0)) (.cons (.lit (.int 0)) (.cons (.lit (.int 1)) .nil)))))) .nil))))))
    (.cons (.ret (.cmp .eq (.comp (.call 15 (.cons (.var 10) .nil)) [("one", 10)] (.name 10) (.val (.var 3)) .none) (.var 4)))
    .nil)))))⟩
abbrev s22 : Stmt := top 52
/-- Exact.__init__ -/
def f23 : FnD := ⟨"Exact.__init__", ["self", "top", "bottom", "sign", "over", "under", "root", "part", "radix"], 6,
  (.cons (.ife (.not (.call 5 (.cons (.var 1) (.cons (.var 2) (.cons (.var 3) (.cons (.var 4) (.cons (.var 5) .nil)))))))
    (.cons (.raise 2 (.cons (.lit (.str "no number")) .nil))
    .nil)
    .nil)
    (.cons (.par 7 8 (.tup (.cons (.var 1) (.cons (.var 2) .nil))) (.call 1 (.cons (.var 4) (.cons (.var 5) .nil))))
    (.cons (.set 6 (.call 3 (.cons (.idx (.var 8) (.lit (.int 0))) (.cons (.idx (.var 8) (.lit (.int 1))) .nil))))
    (.cons (.ife (.cmp .notN (.var 6) (.lit .non))
    (.cons (.set 7 (.call 4 (.cons (.var 7) (.cons (.tup (.cons (.bin .mul (.var 3) (.idx (.var 6) (.lit (.int 0)))) (.cons (.idx (.var 6) (.lit (.int 1))) .nil))) .nil))))
    .nil)
    .nil)
    (.cons (.ife (.or (.cmp .notN (.var 6) (.lit .non)) (.cmp .eq (.var 3) (.lit (.int 0))))
    (.cons (.asg (.tup (.cons (.name 3) (.cons (.name 8) .nil))) (.tup (.cons (.lit (.int 0)) (.cons (.tup (.cons (.lit (.int 0)) (.cons (.lit (.int 1)) .nil))) .nil))))
    .nil)
    .nil)
    (.cons (.fld2 (.var 0) "top" "bottom" (.call 1 (.cons (.idx (.var 7) (.lit (.int 0))) (.cons (.idx (.var 7) (.lit (.int 1))) .nil))))
    (.cons (.fld (.var 0) "sign" (.var 3))
    (.cons (.fld2 (.var 0) "over" "under" (.var 8))
    .nil))))))))⟩
abbrev s23 : Stmt := initOf (top 27)
def T : Tab := ⟨[f0, f1, f2, f3, f4, f5, f6, f7, f8, f9, f10, f11, f12, f13, f14, f15, f16, f17, f18, f19, f20, f21, f22, f23], [], ["ValueError", "abs", "all", "bool", "int", "isinstance", "list", "min", "range", "repr", "sum"], fun c => match c with | 0 => ["top", "bottom", "sign", "over", "under"] | _ => [], [.bool, .int, .own 0], [], [], [⟨"PointError", none, "", [], [], false⟩, ⟨"ValueError", some "ValueError", "", [], [], false⟩, ⟨"NoExact", none, "", [], [0, 1, 2], true⟩, ⟨"Undone", none, "", [], [], false⟩, ⟨"NoBottom", none, "", [], [], false⟩, ⟨"NoWay", none, "", [], [], false⟩, ⟨"Missing", none, "", [], [], false⟩, ⟨"NoText", none, "", [], [], false⟩, ⟨"NoLine", none, "", [], [], false⟩, ⟨"NoRow", none, "", [], [], false⟩, ⟨"NoBack", none, "", [], [], false⟩, ⟨"TwoRoots", none, "", [], [], false⟩, ⟨"NotPlain", none, "", [], [], false⟩, ⟨"NeverDone", none, "", [], [], false⟩, ⟨"NoDeed", none, "", [], [], false⟩, ⟨"NoFit", none, "", [], [], false⟩, ⟨"Taken", none, "", [], [], false⟩], [⟨"Exact", 23, ["top", "bottom", "sign", "over", "under"]⟩], [⟨0, 2, ["sign", "over", "under"], [.inl 0, .inl 1, .inl 2, .inl 3, .inl 4]⟩, ⟨0, 0, ["under", "sign", "bottom", "top", "over"], [.inl 3, .inl 2, .inl 1, .inl 4, .inl 0]⟩, ⟨0, 0, ["bottom", "over", "sign", "top"], [.inl 3, .inl 0, .inl 2, .inl 1, .inr (.int 1)]⟩, ⟨0, 1, ["bottom"], [.inl 0, .inl 1, .inr (.int 0), .inr (.int 0), .inr (.int 1)]⟩, ⟨0, 0, ["top"], [.inl 0, .inr (.int 1), .inr (.int 0), .inr (.int 0), .inr (.int 1)]⟩, ⟨0, 1, [], [.inl 0, .inr (.int 1), .inr (.int 0), .inr (.int 0), .inr (.int 1)]⟩, ⟨0, 1, ["sign", "over"], [.inl 0, .inr (.int 1), .inl 1, .inl 2, .inr (.int 1)]⟩, ⟨0, 2, [], [.inl 0, .inl 1, .inr (.int 0), .inr (.int 0), .inr (.int 1)]⟩]⟩
theorem c0 : chkSs T f0.N (defScope s0) f0.body (defBody s0) = true := by decide +kernel
theorem sc0 : FnScope f0.N (f0.N.take f0.np) (defScope s0) := ⟨rfl, rfl, rfl, by decide +kernel, rfl, by decide +kernel, by decide +kernel⟩
theorem b0 (kV doc pm : Value) (an : Option Addr) (cdv ct : Value) (us : List Value) (hl : us.length = 1) : bindArgs (PySem.W.fnOf "is_whole" "is_whole" (defArgs s0) (defBody s0) (defScope s0) .none kV doc pm an cdv ct) ⟨us, []⟩ = pure ((f0.N.take f0.np).zip us) :=
  match us, hl with | [_], _ => rfl
theorem c1 : chkSs T f1.N (defScope s1) f1.body (defBody s1) = true := by decide +kernel
theorem sc1 : FnScope f1.N (f1.N.take f1.np) (defScope s1) := ⟨rfl, rfl, rfl, by decide +kernel, rfl, by decide +kernel, by decide +kernel⟩
theorem b1 (kV doc pm : Value) (an : Option Addr) (cdv ct : Value) (us : List Value) (hl : us.length = 2) : bindArgs (PySem.W.fnOf "lowest" "lowest" (defArgs s1) (defBody s1) (defScope s1) .none kV doc pm an cdv ct) ⟨us, []⟩ = pure ((f1.N.take f1.np).zip us) :=
  match us, hl with | [_, _], _ => rfl
theorem c2 : chkSs T f2.N (defScope s2) f2.body (defBody s2) = true := by decide +kernel
theorem sc2 : FnScope f2.N (f2.N.take f2.np) (defScope s2) := ⟨rfl, rfl, rfl, by decide +kernel, rfl, by decide +kernel, by decide +kernel⟩
theorem b2 (kV doc pm : Value) (an : Option Addr) (cdv ct : Value) (us : List Value) (hl : us.length = 1) : bindArgs (PySem.W.fnOf "whole_root" "whole_root" (defArgs s2) (defBody s2) (defScope s2) .none kV doc pm an cdv ct) ⟨us, []⟩ = pure ((f2.N.take f2.np).zip us) :=
  match us, hl with | [_], _ => rfl
theorem c3 : chkSs T f3.N (defScope s3) f3.body (defBody s3) = true := by decide +kernel
theorem sc3 : FnScope f3.N (f3.N.take f3.np) (defScope s3) := ⟨rfl, rfl, rfl, by decide +kernel, rfl, by decide +kernel, by decide +kernel⟩
theorem b3 (kV doc pm : Value) (an : Option Addr) (cdv ct : Value) (us : List Value) (hl : us.length = 2) : bindArgs (PySem.W.fnOf "root_of" "root_of" (defArgs s3) (defBody s3) (defScope s3) .none kV doc pm an cdv ct) ⟨us, []⟩ = pure ((f3.N.take f3.np).zip us) :=
  match us, hl with | [_, _], _ => rfl
theorem c4 : chkSs T f4.N (defScope s4) f4.body (defBody s4) = true := by decide +kernel
theorem sc4 : FnScope f4.N (f4.N.take f4.np) (defScope s4) := ⟨rfl, rfl, rfl, by decide +kernel, rfl, by decide +kernel, by decide +kernel⟩
theorem b4 (kV doc pm : Value) (an : Option Addr) (cdv ct : Value) (us : List Value) (hl : us.length = 2) : bindArgs (PySem.W.fnOf "sum_of" "sum_of" (defArgs s4) (defBody s4) (defScope s4) .none kV doc pm an cdv ct) ⟨us, []⟩ = pure ((f4.N.take f4.np).zip us) :=
  match us, hl with | [_, _], _ => rfl
theorem c5 : chkSs T f5.N (defScope s5) f5.body (defBody s5) = true := by decide +kernel
theorem sc5 : FnScope f5.N (f5.N.take f5.np) (defScope s5) := ⟨rfl, rfl, rfl, by decide +kernel, rfl, by decide +kernel, by decide +kernel⟩
theorem b5 (kV doc pm : Value) (an : Option Addr) (cdv ct : Value) (us : List Value) (hl : us.length = 5) : bindArgs (PySem.W.fnOf "are_right" "are_right" (defArgs s5) (defBody s5) (defScope s5) .none kV doc pm an cdv ct) ⟨us, []⟩ = pure ((f5.N.take f5.np).zip us) :=
  match us, hl with | [_, _, _, _, _], _ => rfl
theorem c6 : chkSs T f6.N (defScope s6) f6.body (defBody s6) = true := by decide +kernel
theorem sc6 : FnScope f6.N (f6.N.take f6.np) (defScope s6) := ⟨rfl, rfl, rfl, by decide +kernel, rfl, by decide +kernel, by decide +kernel⟩
theorem b6 (kV doc pm : Value) (an : Option Addr) (cdv ct : Value) (us : List Value) (hl : us.length = 1) : bindArgs (PySem.W.fnOf "_law_deck" "_law_deck" (defArgs s6) (defBody s6) (defScope s6) .none kV doc pm an cdv ct) ⟨us, []⟩ = pure ((f6.N.take f6.np).zip us) :=
  match us, hl with | [_], _ => rfl
theorem c7 : chkSs T f7.N (defScope s7) f7.body (defBody s7) = true := by decide +kernel
theorem sc7 : FnScope f7.N (f7.N.take f7.np) (defScope s7) := ⟨rfl, rfl, rfl, by decide +kernel, rfl, by decide +kernel, by decide +kernel⟩
theorem b7 (kV doc pm : Value) (an : Option Addr) (cdv ct : Value) (us : List Value) (hl : us.length = 2) : bindArgs (PySem.W.fnOf "_law_draw" "_law_draw" (defArgs s7) (defBody s7) (defScope s7) .none kV doc pm an cdv ct) ⟨us, []⟩ = pure ((f7.N.take f7.np).zip us) :=
  match us, hl with | [_, _], _ => rfl
theorem c8 : chkSs T f8.N (defScope s8) f8.body (defBody s8) = true := by decide +kernel
theorem sc8 : FnScope f8.N (f8.N.take f8.np) (defScope s8) := ⟨rfl, rfl, rfl, by decide +kernel, rfl, by decide +kernel, by decide +kernel⟩
theorem b8 (kV doc pm : Value) (an : Option Addr) (cdv ct : Value) (us : List Value) (hl : us.length = 2) : bindArgs (PySem.W.fnOf "_law_lowest" "_law_lowest" (defArgs s8) (defBody s8) (defScope s8) .none kV doc pm an cdv ct) ⟨us, []⟩ = pure ((f8.N.take f8.np).zip us) :=
  match us, hl with | [_, _], _ => rfl
theorem c9 : chkSs T f9.N (defScope s9) f9.body (defBody s9) = true := by decide +kernel
theorem sc9 : FnScope f9.N (f9.N.take f9.np) (defScope s9) := ⟨rfl, rfl, rfl, by decide +kernel, rfl, by decide +kernel, by decide +kernel⟩
theorem b9 (kV doc pm : Value) (an : Option Addr) (cdv ct : Value) (us : List Value) (hl : us.length = 1) : bindArgs (PySem.W.fnOf "_law_square_root" "_law_square_root" (defArgs s9) (defBody s9) (defScope s9) .none kV doc pm an cdv ct) ⟨us, []⟩ = pure ((f9.N.take f9.np).zip us) :=
  match us, hl with | [_], _ => rfl
theorem c10 : chkSs T f10.N (defScope s10) f10.body (defBody s10) = true := by decide +kernel
theorem sc10 : FnScope f10.N (f10.N.take f10.np) (defScope s10) := ⟨rfl, rfl, rfl, by decide +kernel, rfl, by decide +kernel, by decide +kernel⟩
theorem b10 (kV doc pm : Value) (an : Option Addr) (cdv ct : Value) (us : List Value) (hl : us.length = 1) : bindArgs (PySem.W.fnOf "_law_root" "_law_root" (defArgs s10) (defBody s10) (defScope s10) .none kV doc pm an cdv ct) ⟨us, []⟩ = pure ((f10.N.take f10.np).zip us) :=
  match us, hl with | [_], _ => rfl
theorem c11 : chkSs T f11.N (defScope s11) f11.body (defBody s11) = true := by decide +kernel
theorem sc11 : FnScope f11.N (f11.N.take f11.np) (defScope s11) := ⟨rfl, rfl, rfl, by decide +kernel, rfl, by decide +kernel, by decide +kernel⟩
theorem b11 (kV doc pm : Value) (an : Option Addr) (cdv ct : Value) (us : List Value) (hl : us.length = 5) : bindArgs (PySem.W.fnOf "_law_form" "_law_form" (defArgs s11) (defBody s11) (defScope s11) .none kV doc pm an cdv ct) ⟨us, []⟩ = pure ((f11.N.take f11.np).zip us) :=
  match us, hl with | [_, _, _, _, _], _ => rfl
theorem c12 : chkSs T f12.N (defScope s12) f12.body (defBody s12) = true := by decide +kernel
theorem sc12 : FnScope f12.N (f12.N.take f12.np) (defScope s12) := ⟨rfl, rfl, rfl, by decide +kernel, rfl, by decide +kernel, by decide +kernel⟩
theorem b12 (kV doc pm : Value) (an : Option Addr) (cdv ct : Value) (us : List Value) (hl : us.length = 1) : bindArgs (PySem.W.fnOf "_law_whole" "_law_whole" (defArgs s12) (defBody s12) (defScope s12) .none kV doc pm an cdv ct) ⟨us, []⟩ = pure ((f12.N.take f12.np).zip us) :=
  match us, hl with | [_], _ => rfl
theorem c13 : chkSs T f13.N (defScope s13) f13.body (defBody s13) = true := by decide +kernel
theorem sc13 : FnScope f13.N (f13.N.take f13.np) (defScope s13) := ⟨rfl, rfl, rfl, by decide +kernel, rfl, by decide +kernel, by decide +kernel⟩
theorem b13 (kV doc pm : Value) (an : Option Addr) (cdv ct : Value) (us : List Value) (hl : us.length = 1) : bindArgs (PySem.W.fnOf "_law_five" "_law_five" (defArgs s13) (defBody s13) (defScope s13) .none kV doc pm an cdv ct) ⟨us, []⟩ = pure ((f13.N.take f13.np).zip us) :=
  match us, hl with | [_], _ => rfl
theorem c14 : chkSs T f14.N (defScope s14) f14.body (defBody s14) = true := by decide +kernel
theorem sc14 : FnScope f14.N (f14.N.take f14.np) (defScope s14) := ⟨rfl, rfl, rfl, by decide +kernel, rfl, by decide +kernel, by decide +kernel⟩
theorem b14 (kV doc pm : Value) (an : Option Addr) (cdv ct : Value) (us : List Value) (hl : us.length = 1) : bindArgs (PySem.W.fnOf "_law_made" "_law_made" (defArgs s14) (defBody s14) (defScope s14) .none kV doc pm an cdv ct) ⟨us, []⟩ = pure ((f14.N.take f14.np).zip us) :=
  match us, hl with | [_], _ => rfl
theorem c15 : chkSs T f15.N (defScope s15) f15.body (defBody s15) = true := by decide +kernel
theorem sc15 : FnScope f15.N (f15.N.take f15.np) (defScope s15) := ⟨rfl, rfl, rfl, by decide +kernel, rfl, by decide +kernel, by decide +kernel⟩
theorem b15 (kV doc pm : Value) (an : Option Addr) (cdv ct : Value) (us : List Value) (hl : us.length = 1) : bindArgs (PySem.W.fnOf "_law_fields" "_law_fields" (defArgs s15) (defBody s15) (defScope s15) .none kV doc pm an cdv ct) ⟨us, []⟩ = pure ((f15.N.take f15.np).zip us) :=
  match us, hl with | [_], _ => rfl
theorem c16 : chkSs T f16.N (defScope s16) f16.body (defBody s16) = true := by decide +kernel
theorem sc16 : FnScope f16.N (f16.N.take f16.np) (defScope s16) := ⟨rfl, rfl, rfl, by decide +kernel, rfl, by decide +kernel, by decide +kernel⟩
theorem b16 (kV doc pm : Value) (an : Option Addr) (cdv ct : Value) (us : List Value) (hl : us.length = 2) : bindArgs (PySem.W.fnOf "_law_is" "_law_is" (defArgs s16) (defBody s16) (defScope s16) .none kV doc pm an cdv ct) ⟨us, []⟩ = pure ((f16.N.take f16.np).zip us) :=
  match us, hl with | [_, _], _ => rfl
theorem c17 : chkSs T f17.N (defScope s17) f17.body (defBody s17) = true := by decide +kernel
theorem sc17 : FnScope f17.N (f17.N.take f17.np) (defScope s17) := ⟨rfl, rfl, rfl, by decide +kernel, rfl, by decide +kernel, by decide +kernel⟩
theorem b17 (kV doc pm : Value) (an : Option Addr) (cdv ct : Value) (us : List Value) (hl : us.length = 2) : bindArgs (PySem.W.fnOf "_law_by_names" "_law_by_names" (defArgs s17) (defBody s17) (defScope s17) .none kV doc pm an cdv ct) ⟨us, []⟩ = pure ((f17.N.take f17.np).zip us) :=
  match us, hl with | [_, _], _ => rfl
theorem c18 : chkSs T f18.N (defScope s18) f18.body (defBody s18) = true := by decide +kernel
theorem sc18 : FnScope f18.N (f18.N.take f18.np) (defScope s18) := ⟨rfl, rfl, rfl, by decide +kernel, rfl, by decide +kernel, by decide +kernel⟩
theorem b18 (kV doc pm : Value) (an : Option Addr) (cdv ct : Value) (us : List Value) (hl : us.length = 1) : bindArgs (PySem.W.fnOf "_law_is_right" "_law_is_right" (defArgs s18) (defBody s18) (defScope s18) .none kV doc pm an cdv ct) ⟨us, []⟩ = pure ((f18.N.take f18.np).zip us) :=
  match us, hl with | [_], _ => rfl
theorem c19 : chkSs T f19.N (defScope s19) f19.body (defBody s19) = true := by decide +kernel
theorem sc19 : FnScope f19.N (f19.N.take f19.np) (defScope s19) := ⟨rfl, rfl, rfl, by decide +kernel, rfl, by decide +kernel, by decide +kernel⟩
theorem b19 (kV doc pm : Value) (an : Option Addr) (cdv ct : Value) (us : List Value) (hl : us.length = 1) : bindArgs (PySem.W.fnOf "_law_great" "_law_great" (defArgs s19) (defBody s19) (defScope s19) .none kV doc pm an cdv ct) ⟨us, []⟩ = pure ((f19.N.take f19.np).zip us) :=
  match us, hl with | [_], _ => rfl
theorem c20 : chkSs T f20.N (defScope s20) f20.body (defBody s20) = true := by decide +kernel
theorem sc20 : FnScope f20.N (f20.N.take f20.np) (defScope s20) := ⟨rfl, rfl, rfl, by decide +kernel, rfl, by decide +kernel, by decide +kernel⟩
theorem b20 (kV doc pm : Value) (an : Option Addr) (cdv ct : Value) (us : List Value) (hl : us.length = 2) : bindArgs (PySem.W.fnOf "_law_odd" "_law_odd" (defArgs s20) (defBody s20) (defScope s20) .none kV doc pm an cdv ct) ⟨us, []⟩ = pure ((f20.N.take f20.np).zip us) :=
  match us, hl with | [_, _], _ => rfl
theorem c21 : chkSs T f21.N (defScope s21) f21.body (defBody s21) = true := by decide +kernel
theorem sc21 : FnScope f21.N (f21.N.take f21.np) (defScope s21) := ⟨rfl, rfl, rfl, by decide +kernel, rfl, by decide +kernel, by decide +kernel⟩
theorem b21 (kV doc pm : Value) (an : Option Addr) (cdv ct : Value) (us : List Value) (hl : us.length = 1) : bindArgs (PySem.W.fnOf "_law_told" "_law_told" (defArgs s21) (defBody s21) (defScope s21) .none kV doc pm an cdv ct) ⟨us, []⟩ = pure ((f21.N.take f21.np).zip us) :=
  match us, hl with | [_], _ => rfl
theorem c22 : chkSs T f22.N (defScope s22) f22.body (defBody s22) = true := by decide +kernel
theorem sc22 : FnScope f22.N (f22.N.take f22.np) (defScope s22) := ⟨rfl, rfl, rfl, by decide +kernel, rfl, by decide +kernel, by decide +kernel⟩
theorem b22 (kV doc pm : Value) (an : Option Addr) (cdv ct : Value) (us : List Value) (hl : us.length = 1) : bindArgs (PySem.W.fnOf "law" "law" (defArgs s22) (defBody s22) (defScope s22) .none kV doc pm an cdv ct) ⟨us, []⟩ = pure ((f22.N.take f22.np).zip us) :=
  match us, hl with | [_], _ => rfl
theorem c23 : chkSs T f23.N (defScope s23) f23.body (defBody s23) = true := by decide +kernel
theorem sc23 : FnScope f23.N (f23.N.take f23.np) (defScope s23) := ⟨rfl, rfl, rfl, by decide +kernel, rfl, by decide +kernel, by decide +kernel⟩
abbrev iniD (K : PySem.W.Frag) (f : Addr) (fd : FuncData) : Prop := FunD K "__init__" "Exact.__init__" (defArgs s23) (defBody s23) (defScope s23) [.int 1] [("sign", .int 0), ("over", .int 0), ("under", .int 1)] f fd
theorem kb0 {K : PySem.W.Frag} {f : Addr} {fd : FuncData} (F : iniD K f fd) : ∃ g gV, KBn K fd ["self", "top", "bottom", "sign", "over", "under"] (2 + 1) ["sign", "over", "under"] g gV ∧ ∀ (y : V) (us ws : List V), us.length = 2 → ws.length = 3 → gV (y :: us) ws = permM ⟨0, 2, ["sign", "over", "under"], [.inl 0, .inl 1, .inl 2, .inl 3, .inl 4]⟩ litV (y :: us) ws :=
  mk_kb (ps := ["self", "top", "bottom", "sign", "over", "under"]) F ⟨0, 2, ["sign", "over", "under"], [.inl 0, .inl 1, .inl 2, .inl 3, .inl 4]⟩ [] [1, 2, 3] (by simp) (by simp) (by simp) (fun T D doc pm an cdv ct us its mv ws h1 h2 h3 h4 => by
    match us, its, mv, ws, h1, h2, h3, h4 with
    | [_, _, _], [_], [], [_, _, _], _, _, _, _ =>
      refine ⟨_, rfl, ?_⟩
      rfl)
    (fun y us ws h1 h2 => by match us, ws, h1, h2 with | [_, _], [_, _, _], _, _ => rfl)
theorem kb1 {K : PySem.W.Frag} {f : Addr} {fd : FuncData} (F : iniD K f fd) : ∃ g gV, KBn K fd ["self", "top", "bottom", "sign", "over", "under"] (0 + 1) ["under", "sign", "bottom", "top", "over"] g gV ∧ ∀ (y : V) (us ws : List V), us.length = 0 → ws.length = 5 → gV (y :: us) ws = permM ⟨0, 0, ["under", "sign", "bottom", "top", "over"], [.inl 3, .inl 2, .inl 1, .inl 4, .inl 0]⟩ litV (y :: us) ws :=
  mk_kb (ps := ["self", "top", "bottom", "sign", "over", "under"]) F ⟨0, 0, ["under", "sign", "bottom", "top", "over"], [.inl 3, .inl 2, .inl 1, .inl 4, .inl 0]⟩ [] [4, 3, 2, 5, 1] (by simp) (by simp) (by simp) (fun T D doc pm an cdv ct us its mv ws h1 h2 h3 h4 => by
    match us, its, mv, ws, h1, h2, h3, h4 with
    | [_], [_], [], [_, _, _, _, _], _, _, _, _ =>
      refine ⟨_, rfl, ?_⟩
      rfl)
    (fun y us ws h1 h2 => by match us, ws, h1, h2 with | [], [_, _, _, _, _], _, _ => rfl)
theorem kb2 {K : PySem.W.Frag} {f : Addr} {fd : FuncData} (F : iniD K f fd) : ∃ g gV, KBn K fd ["self", "top", "bottom", "sign", "over", "under"] (0 + 1) ["bottom", "over", "sign", "top"] g gV ∧ ∀ (y : V) (us ws : List V), us.length = 0 → ws.length = 4 → gV (y :: us) ws = permM ⟨0, 0, ["bottom", "over", "sign", "top"], [.inl 3, .inl 0, .inl 2, .inl 1, .inr (.int 1)]⟩ litV (y :: us) ws :=
  mk_kb (ps := ["self", "top", "bottom", "sign", "over", "under"]) F ⟨0, 0, ["bottom", "over", "sign", "top"], [.inl 3, .inl 0, .inl 2, .inl 1, .inr (.int 1)]⟩ [("under", .int 1)] [5, 2, 4, 3, 1] (by simp) (by simp) (by simp) (fun T D doc pm an cdv ct us its mv ws h1 h2 h3 h4 => by
    match us, its, mv, ws, h1, h2, h3, h4 with
    | [_], [_], [_], [_, _, _, _], _, _, _, _ =>
      refine ⟨_, rfl, ?_⟩
      refine ⟨_, _, _, _, _, _, rfl, rfl, ?_⟩
      rfl)
    (fun y us ws h1 h2 => by match us, ws, h1, h2 with | [], [_, _, _, _], _, _ => rfl)
theorem kb3 {K : PySem.W.Frag} {f : Addr} {fd : FuncData} (F : iniD K f fd) : ∃ g gV, KBn K fd ["self", "top", "bottom", "sign", "over", "under"] (1 + 1) ["bottom"] g gV ∧ ∀ (y : V) (us ws : List V), us.length = 1 → ws.length = 1 → gV (y :: us) ws = permM ⟨0, 1, ["bottom"], [.inl 0, .inl 1, .inr (.int 0), .inr (.int 0), .inr (.int 1)]⟩ litV (y :: us) ws :=
  mk_kb (ps := ["self", "top", "bottom", "sign", "over", "under"]) F ⟨0, 1, ["bottom"], [.inl 0, .inl 1, .inr (.int 0), .inr (.int 0), .inr (.int 1)]⟩ [("sign", .int 0), ("over", .int 0), ("under", .int 1)] [4, 1, 2, 3] (by simp) (by simp) (by simp) (fun T D doc pm an cdv ct us its mv ws h1 h2 h3 h4 => by
    match us, its, mv, ws, h1, h2, h3, h4 with
    | [_, _], [_], [_, _, _], [_], _, _, _, _ =>
      refine ⟨_, rfl, ?_⟩
      refine ⟨_, _, _, _, _, _, rfl, rfl, ?_⟩
      refine ⟨_, _, _, _, _, _, rfl, rfl, ?_⟩
      refine ⟨_, _, _, _, _, _, rfl, rfl, ?_⟩
      rfl)
    (fun y us ws h1 h2 => by match us, ws, h1, h2 with | [_], [_], _, _ => rfl)
theorem kb4 {K : PySem.W.Frag} {f : Addr} {fd : FuncData} (F : iniD K f fd) : ∃ g gV, KBn K fd ["self", "top", "bottom", "sign", "over", "under"] (0 + 1) ["top"] g gV ∧ ∀ (y : V) (us ws : List V), us.length = 0 → ws.length = 1 → gV (y :: us) ws = permM ⟨0, 0, ["top"], [.inl 0, .inr (.int 1), .inr (.int 0), .inr (.int 0), .inr (.int 1)]⟩ litV (y :: us) ws :=
  mk_kb (ps := ["self", "top", "bottom", "sign", "over", "under"]) F ⟨0, 0, ["top"], [.inl 0, .inr (.int 1), .inr (.int 0), .inr (.int 0), .inr (.int 1)]⟩ [("sign", .int 0), ("over", .int 0), ("under", .int 1)] [4, 0, 1, 2, 3] (by simp) (by simp) (by simp) (fun T D doc pm an cdv ct us its mv ws h1 h2 h3 h4 => by
    match us, its, mv, ws, h1, h2, h3, h4 with
    | [_], [_], [_, _, _], [_], _, _, _, _ =>
      refine ⟨_, rfl, ?_⟩
      refine ⟨_, _, _, _, _, _, rfl, rfl, ?_⟩
      refine ⟨_, _, _, _, _, _, rfl, rfl, ?_⟩
      refine ⟨_, _, _, _, _, _, rfl, rfl, ?_⟩
      rfl)
    (fun y us ws h1 h2 => by match us, ws, h1, h2 with | [], [_], _, _ => rfl)
theorem kb5 {K : PySem.W.Frag} {f : Addr} {fd : FuncData} (F : iniD K f fd) : ∃ g gV, KBn K fd ["self", "top", "bottom", "sign", "over", "under"] (1 + 1) [] g gV ∧ ∀ (y : V) (us ws : List V), us.length = 1 → ws.length = 0 → gV (y :: us) ws = permM ⟨0, 1, [], [.inl 0, .inr (.int 1), .inr (.int 0), .inr (.int 0), .inr (.int 1)]⟩ litV (y :: us) ws :=
  mk_kb (ps := ["self", "top", "bottom", "sign", "over", "under"]) F ⟨0, 1, [], [.inl 0, .inr (.int 1), .inr (.int 0), .inr (.int 0), .inr (.int 1)]⟩ [("sign", .int 0), ("over", .int 0), ("under", .int 1)] [0, 1, 2, 3] (by simp) (by simp) (by simp) (fun T D doc pm an cdv ct us its mv ws h1 h2 h3 h4 => by
    match us, its, mv, ws, h1, h2, h3, h4 with
    | [_, _], [_], [_, _, _], [], _, _, _, _ =>
      refine ⟨_, rfl, ?_⟩
      refine ⟨_, _, _, _, _, _, rfl, rfl, ?_⟩
      refine ⟨_, _, _, _, _, _, rfl, rfl, ?_⟩
      refine ⟨_, _, _, _, _, _, rfl, rfl, ?_⟩
      rfl)
    (fun y us ws h1 h2 => by match us, ws, h1, h2 with | [_], [], _, _ => rfl)
theorem kb6 {K : PySem.W.Frag} {f : Addr} {fd : FuncData} (F : iniD K f fd) : ∃ g gV, KBn K fd ["self", "top", "bottom", "sign", "over", "under"] (1 + 1) ["sign", "over"] g gV ∧ ∀ (y : V) (us ws : List V), us.length = 1 → ws.length = 2 → gV (y :: us) ws = permM ⟨0, 1, ["sign", "over"], [.inl 0, .inr (.int 1), .inl 1, .inl 2, .inr (.int 1)]⟩ litV (y :: us) ws :=
  mk_kb (ps := ["self", "top", "bottom", "sign", "over", "under"]) F ⟨0, 1, ["sign", "over"], [.inl 0, .inr (.int 1), .inl 1, .inl 2, .inr (.int 1)]⟩ [("under", .int 1)] [0, 2, 3, 1] (by simp) (by simp) (by simp) (fun T D doc pm an cdv ct us its mv ws h1 h2 h3 h4 => by
    match us, its, mv, ws, h1, h2, h3, h4 with
    | [_, _], [_], [_], [_, _], _, _, _, _ =>
      refine ⟨_, rfl, ?_⟩
      refine ⟨_, _, _, _, _, _, rfl, rfl, ?_⟩
      rfl)
    (fun y us ws h1 h2 => by match us, ws, h1, h2 with | [_], [_, _], _, _ => rfl)
theorem kb7 {K : PySem.W.Frag} {f : Addr} {fd : FuncData} (F : iniD K f fd) : ∃ g gV, KBn K fd ["self", "top", "bottom", "sign", "over", "under"] (2 + 1) [] g gV ∧ ∀ (y : V) (us ws : List V), us.length = 2 → ws.length = 0 → gV (y :: us) ws = permM ⟨0, 2, [], [.inl 0, .inl 1, .inr (.int 0), .inr (.int 0), .inr (.int 1)]⟩ litV (y :: us) ws :=
  mk_kb (ps := ["self", "top", "bottom", "sign", "over", "under"]) F ⟨0, 2, [], [.inl 0, .inl 1, .inr (.int 0), .inr (.int 0), .inr (.int 1)]⟩ [("sign", .int 0), ("over", .int 0), ("under", .int 1)] [1, 2, 3] (by simp) (by simp) (by simp) (fun T D doc pm an cdv ct us its mv ws h1 h2 h3 h4 => by
    match us, its, mv, ws, h1, h2, h3, h4 with
    | [_, _, _], [_], [_, _, _], [], _, _, _, _ =>
      refine ⟨_, rfl, ?_⟩
      refine ⟨_, _, _, _, _, _, rfl, rfl, ?_⟩
      refine ⟨_, _, _, _, _, _, rfl, rfl, ?_⟩
      refine ⟨_, _, _, _, _, _, rfl, rfl, ?_⟩
      rfl)
    (fun y us ws h1 h2 => by match us, ws, h1, h2 with | [_, _], [], _, _ => rfl)
theorem all_mk {P : Program} {w : World} {K : PySem.W.Frag} {h : Heap} {mg : Str → Option Value} {g0 g1 g2 g3 g4 g5 g6 g7 g8 g9 g10 g11 g12 g13 g14 g15 g16 g17 g18 g19 g20 g21 g22 g23 : Addr} {od0 an0 od1 an1 od2 an2 od3 an3 od4 an4 od5 an5 od6 an6 od7 an7 od8 an8 od9 an9 od10 an10 od11 an11 od12 an12 od13 an13 od14 an14 od15 an15 od16 an16 od17 an17 od18 an18 od19 an19 od20 an20 od21 an21 od22 an22 od23 an23 : Option Addr} {sl0 sl1 sl2 sl3 sl4 sl5 sl6 sl7 sl8 sl9 sl10 sl11 sl12 sl13 sl14 sl15 sl16 sl17 sl18 sl19 sl20 sl21 sl22 sl23 : Array (Option Value)} {oc0 kV0 dc0 pm0 cd0 ct0 oc1 kV1 dc1 pm1 cd1 ct1 oc2 kV2 dc2 pm2 cd2 ct2 oc3 kV3 dc3 pm3 cd3 ct3 oc4 kV4 dc4 pm4 cd4 ct4 oc5 kV5 dc5 pm5 cd5 ct5 oc6 kV6 dc6 pm6 cd6 ct6 oc7 kV7 dc7 pm7 cd7 ct7 oc8 kV8 dc8 pm8 cd8 ct8 oc9 kV9 dc9 pm9 cd9 ct9 oc10 kV10 dc10 pm10 cd10 ct10 oc11 kV11 dc11 pm11 cd11 ct11 oc12 kV12 dc12 pm12 cd12 ct12 oc13 kV13 dc13 pm13 cd13 ct13 oc14 kV14 dc14 pm14 cd14 ct14 oc15 kV15 dc15 pm15 cd15 ct15 oc16 kV16 dc16 pm16 cd16 ct16 oc17 kV17 dc17 pm17 cd17 ct17 oc18 kV18 dc18 pm18 cd18 ct18 oc19 kV19 dc19 pm19 cd19 ct19 oc20 kV20 dc20 pm20 cd20 ct20 oc21 kV21 dc21 pm21 cd21 ct21 oc22 kV22 dc22 pm22 cd22 ct22 oc23 dc23 pm23 cd23 ct23 : Value} {gC : Addr} {dT dD : Addr} {dTn : Nat} {dTs : Array (Option Value)} {dpt0 dkt0 dkt1 dkt2 : Tok} {xA0 : Addr} {xA2 : Addr} {xA3 : Addr} {xA4 : Addr} {xA5 : Addr} {xA6 : Addr} {xA7 : Addr} {xA8 : Addr} {xA9 : Addr} {xA10 : Addr} {xA11 : Addr} {xA12 : Addr} {xA13 : Addr} {xA14 : Addr} {xA15 : Addr} {xA16 : Addr} (X : K.In h) (G : h.Ns mainGlobals mg)
    (a0 : PySem.W.nsIn K mainGlobals "is_whole" = some (some (.ref g0))) (l0 : K.lookup g0 = some ⟨oc0, od0, .func (PySem.W.fnOf "is_whole" "is_whole" (defArgs s0) (defBody s0) (defScope s0) .none kV0 dc0 pm0 an0 cd0 ct0), sl0⟩) (m0 : PySem.W.codeIn K cd0 "is_whole" = true) (k0 : PySem.W.keepIn K (.ref g0) = true)
    (a1 : PySem.W.nsIn K mainGlobals "lowest" = some (some (.ref g1))) (l1 : K.lookup g1 = some ⟨oc1, od1, .func (PySem.W.fnOf "lowest" "lowest" (defArgs s1) (defBody s1) (defScope s1) .none kV1 dc1 pm1 an1 cd1 ct1), sl1⟩) (m1 : PySem.W.codeIn K cd1 "lowest" = true) (k1 : PySem.W.keepIn K (.ref g1) = true)
    (a2 : PySem.W.nsIn K mainGlobals "whole_root" = some (some (.ref g2))) (l2 : K.lookup g2 = some ⟨oc2, od2, .func (PySem.W.fnOf "whole_root" "whole_root" (defArgs s2) (defBody s2) (defScope s2) .none kV2 dc2 pm2 an2 cd2 ct2), sl2⟩) (m2 : PySem.W.codeIn K cd2 "whole_root" = true) (k2 : PySem.W.keepIn K (.ref g2) = true)
    (a3 : PySem.W.nsIn K mainGlobals "root_of" = some (some (.ref g3))) (l3 : K.lookup g3 = some ⟨oc3, od3, .func (PySem.W.fnOf "root_of" "root_of" (defArgs s3) (defBody s3) (defScope s3) .none kV3 dc3 pm3 an3 cd3 ct3), sl3⟩) (m3 : PySem.W.codeIn K cd3 "root_of" = true) (k3 : PySem.W.keepIn K (.ref g3) = true)
    (a4 : PySem.W.nsIn K mainGlobals "sum_of" = some (some (.ref g4))) (l4 : K.lookup g4 = some ⟨oc4, od4, .func (PySem.W.fnOf "sum_of" "sum_of" (defArgs s4) (defBody s4) (defScope s4) .none kV4 dc4 pm4 an4 cd4 ct4), sl4⟩) (m4 : PySem.W.codeIn K cd4 "sum_of" = true) (k4 : PySem.W.keepIn K (.ref g4) = true)
    (a5 : PySem.W.nsIn K mainGlobals "are_right" = some (some (.ref g5))) (l5 : K.lookup g5 = some ⟨oc5, od5, .func (PySem.W.fnOf "are_right" "are_right" (defArgs s5) (defBody s5) (defScope s5) .none kV5 dc5 pm5 an5 cd5 ct5), sl5⟩) (m5 : PySem.W.codeIn K cd5 "are_right" = true) (k5 : PySem.W.keepIn K (.ref g5) = true)
    (a6 : PySem.W.nsIn K mainGlobals "_law_deck" = some (some (.ref g6))) (l6 : K.lookup g6 = some ⟨oc6, od6, .func (PySem.W.fnOf "_law_deck" "_law_deck" (defArgs s6) (defBody s6) (defScope s6) .none kV6 dc6 pm6 an6 cd6 ct6), sl6⟩) (m6 : PySem.W.codeIn K cd6 "_law_deck" = true) (k6 : PySem.W.keepIn K (.ref g6) = true)
    (a7 : PySem.W.nsIn K mainGlobals "_law_draw" = some (some (.ref g7))) (l7 : K.lookup g7 = some ⟨oc7, od7, .func (PySem.W.fnOf "_law_draw" "_law_draw" (defArgs s7) (defBody s7) (defScope s7) .none kV7 dc7 pm7 an7 cd7 ct7), sl7⟩) (m7 : PySem.W.codeIn K cd7 "_law_draw" = true) (k7 : PySem.W.keepIn K (.ref g7) = true)
    (a8 : PySem.W.nsIn K mainGlobals "_law_lowest" = some (some (.ref g8))) (l8 : K.lookup g8 = some ⟨oc8, od8, .func (PySem.W.fnOf "_law_lowest" "_law_lowest" (defArgs s8) (defBody s8) (defScope s8) .none kV8 dc8 pm8 an8 cd8 ct8), sl8⟩) (m8 : PySem.W.codeIn K cd8 "_law_lowest" = true) (k8 : PySem.W.keepIn K (.ref g8) = true)
    (a9 : PySem.W.nsIn K mainGlobals "_law_square_root" = some (some (.ref g9))) (l9 : K.lookup g9 = some ⟨oc9, od9, .func (PySem.W.fnOf "_law_square_root" "_law_square_root" (defArgs s9) (defBody s9) (defScope s9) .none kV9 dc9 pm9 an9 cd9 ct9), sl9⟩) (m9 : PySem.W.codeIn K cd9 "_law_square_root" = true) (k9 : PySem.W.keepIn K (.ref g9) = true)
    (a10 : PySem.W.nsIn K mainGlobals "_law_root" = some (some (.ref g10))) (l10 : K.lookup g10 = some ⟨oc10, od10, .func (PySem.W.fnOf "_law_root" "_law_root" (defArgs s10) (defBody s10) (defScope s10) .none kV10 dc10 pm10 an10 cd10 ct10), sl10⟩) (m10 : PySem.W.codeIn K cd10 "_law_root" = true) (k10 : PySem.W.keepIn K (.ref g10) = true)
    (a11 : PySem.W.nsIn K mainGlobals "_law_form" = some (some (.ref g11))) (l11 : K.lookup g11 = some ⟨oc11, od11, .func (PySem.W.fnOf "_law_form" "_law_form" (defArgs s11) (defBody s11) (defScope s11) .none kV11 dc11 pm11 an11 cd11 ct11), sl11⟩) (m11 : PySem.W.codeIn K cd11 "_law_form" = true) (k11 : PySem.W.keepIn K (.ref g11) = true)
    (a12 : PySem.W.nsIn K mainGlobals "_law_whole" = some (some (.ref g12))) (l12 : K.lookup g12 = some ⟨oc12, od12, .func (PySem.W.fnOf "_law_whole" "_law_whole" (defArgs s12) (defBody s12) (defScope s12) .none kV12 dc12 pm12 an12 cd12 ct12), sl12⟩) (m12 : PySem.W.codeIn K cd12 "_law_whole" = true) (k12 : PySem.W.keepIn K (.ref g12) = true)
    (a13 : PySem.W.nsIn K mainGlobals "_law_five" = some (some (.ref g13))) (l13 : K.lookup g13 = some ⟨oc13, od13, .func (PySem.W.fnOf "_law_five" "_law_five" (defArgs s13) (defBody s13) (defScope s13) .none kV13 dc13 pm13 an13 cd13 ct13), sl13⟩) (m13 : PySem.W.codeIn K cd13 "_law_five" = true) (k13 : PySem.W.keepIn K (.ref g13) = true)
    (a14 : PySem.W.nsIn K mainGlobals "_law_made" = some (some (.ref g14))) (l14 : K.lookup g14 = some ⟨oc14, od14, .func (PySem.W.fnOf "_law_made" "_law_made" (defArgs s14) (defBody s14) (defScope s14) .none kV14 dc14 pm14 an14 cd14 ct14), sl14⟩) (m14 : PySem.W.codeIn K cd14 "_law_made" = true) (k14 : PySem.W.keepIn K (.ref g14) = true)
    (a15 : PySem.W.nsIn K mainGlobals "_law_fields" = some (some (.ref g15))) (l15 : K.lookup g15 = some ⟨oc15, od15, .func (PySem.W.fnOf "_law_fields" "_law_fields" (defArgs s15) (defBody s15) (defScope s15) .none kV15 dc15 pm15 an15 cd15 ct15), sl15⟩) (m15 : PySem.W.codeIn K cd15 "_law_fields" = true) (k15 : PySem.W.keepIn K (.ref g15) = true)
    (a16 : PySem.W.nsIn K mainGlobals "_law_is" = some (some (.ref g16))) (l16 : K.lookup g16 = some ⟨oc16, od16, .func (PySem.W.fnOf "_law_is" "_law_is" (defArgs s16) (defBody s16) (defScope s16) .none kV16 dc16 pm16 an16 cd16 ct16), sl16⟩) (m16 : PySem.W.codeIn K cd16 "_law_is" = true) (k16 : PySem.W.keepIn K (.ref g16) = true)
    (a17 : PySem.W.nsIn K mainGlobals "_law_by_names" = some (some (.ref g17))) (l17 : K.lookup g17 = some ⟨oc17, od17, .func (PySem.W.fnOf "_law_by_names" "_law_by_names" (defArgs s17) (defBody s17) (defScope s17) .none kV17 dc17 pm17 an17 cd17 ct17), sl17⟩) (m17 : PySem.W.codeIn K cd17 "_law_by_names" = true) (k17 : PySem.W.keepIn K (.ref g17) = true)
    (a18 : PySem.W.nsIn K mainGlobals "_law_is_right" = some (some (.ref g18))) (l18 : K.lookup g18 = some ⟨oc18, od18, .func (PySem.W.fnOf "_law_is_right" "_law_is_right" (defArgs s18) (defBody s18) (defScope s18) .none kV18 dc18 pm18 an18 cd18 ct18), sl18⟩) (m18 : PySem.W.codeIn K cd18 "_law_is_right" = true) (k18 : PySem.W.keepIn K (.ref g18) = true)
    (a19 : PySem.W.nsIn K mainGlobals "_law_great" = some (some (.ref g19))) (l19 : K.lookup g19 = some ⟨oc19, od19, .func (PySem.W.fnOf "_law_great" "_law_great" (defArgs s19) (defBody s19) (defScope s19) .none kV19 dc19 pm19 an19 cd19 ct19), sl19⟩) (m19 : PySem.W.codeIn K cd19 "_law_great" = true) (k19 : PySem.W.keepIn K (.ref g19) = true)
    (a20 : PySem.W.nsIn K mainGlobals "_law_odd" = some (some (.ref g20))) (l20 : K.lookup g20 = some ⟨oc20, od20, .func (PySem.W.fnOf "_law_odd" "_law_odd" (defArgs s20) (defBody s20) (defScope s20) .none kV20 dc20 pm20 an20 cd20 ct20), sl20⟩) (m20 : PySem.W.codeIn K cd20 "_law_odd" = true) (k20 : PySem.W.keepIn K (.ref g20) = true)
    (a21 : PySem.W.nsIn K mainGlobals "_law_told" = some (some (.ref g21))) (l21 : K.lookup g21 = some ⟨oc21, od21, .func (PySem.W.fnOf "_law_told" "_law_told" (defArgs s21) (defBody s21) (defScope s21) .none kV21 dc21 pm21 an21 cd21 ct21), sl21⟩) (m21 : PySem.W.codeIn K cd21 "_law_told" = true) (k21 : PySem.W.keepIn K (.ref g21) = true)
    (a22 : PySem.W.nsIn K mainGlobals "law" = some (some (.ref g22))) (l22 : K.lookup g22 = some ⟨oc22, od22, .func (PySem.W.fnOf "law" "law" (defArgs s22) (defBody s22) (defScope s22) .none kV22 dc22 pm22 an22 cd22 ct22), sl22⟩) (m22 : PySem.W.codeIn K cd22 "law" = true) (k22 : PySem.W.keepIn K (.ref g22) = true)
    (z0 : PySem.W.nsIn K mainGlobals "ValueError" = some none)
    (z1 : PySem.W.nsIn K mainGlobals "abs" = some none)
    (z2 : PySem.W.nsIn K mainGlobals "all" = some none)
    (z3 : PySem.W.nsIn K mainGlobals "bool" = some none)
    (z4 : PySem.W.nsIn K mainGlobals "int" = some none)
    (z5 : PySem.W.nsIn K mainGlobals "isinstance" = some none)
    (z6 : PySem.W.nsIn K mainGlobals "list" = some none)
    (z7 : PySem.W.nsIn K mainGlobals "min" = some none)
    (z8 : PySem.W.nsIn K mainGlobals "range" = some none)
    (z9 : PySem.W.nsIn K mainGlobals "repr" = some none)
    (z10 : PySem.W.nsIn K mainGlobals "sum" = some none)
    (icC : PySem.W.nsIn K mainGlobals "Exact" = some (some (.ref gC)))
    (icin : PySem.W.findIn K (.ref gC) "__init__" = some (some (.ref g23)))
    (icl : K.lookup g23 = some ⟨oc23, od23, .func (PySem.W.fnOf "__init__" "Exact.__init__" (defArgs s23) (defBody s23) (defScope s23) (.ref dT) (.ref dD) dc23 pm23 an23 cd23 ct23), sl23⟩)
    (icm : PySem.W.codeIn K cd23 "Exact.__init__" = true)
    (ick : PySem.W.keepIn K (.ref g23) = true)
    (ict : K.lookup dT = some ⟨.type "tuple", none, .seq #[.int 1 dpt0] dTn, dTs⟩)
    (icd0 : PySem.W.nsIn K dD "sign" = some (some (.int 0 dkt0)))
    (icd1 : PySem.W.nsIn K dD "over" = some (some (.int 0 dkt1)))
    (icd2 : PySem.W.nsIn K dD "under" = some (some (.int 1 dkt2)))
    (icmk : PySem.W.makesIn K gC = true)
    (icfn : PySem.W.isFn K (.ref g23) = true)
    (ickc : PySem.W.keepIn K (.ref gC) = true)
    (icpg : PySem.W.plainGet K gC Str.empty = true)
    (ichd : PySem.W.hasDictIn K gC = true)
    (icpo : PySem.W.plainOver K gC = true)
    (icsa : PySem.W.findIn K (.ref gC) "__setattr__" = some (some (.builtin "object.__setattr__")))
    (icha : PySem.W.findIn K (.ref gC) "__class__" = some (some (.builtin "object.__class__")))
    (ichn : PySem.W.specialIn K (.builtin "object.__class__") "__get__" = some (some (.builtin "getset_descriptor.__get__")))
    (icht : PySem.W.takesIn K (.builtin "object.__class__") = some true)
    (ichm : PySem.W.mroIn K gC (.type "object") = some true)
    (icf0 : PySem.W.findIn K (.ref gC) "top" = some none)
    (icf1 : PySem.W.findIn K (.ref gC) "bottom" = some none)
    (icf2 : PySem.W.findIn K (.ref gC) "sign" = some none)
    (icf3 : PySem.W.findIn K (.ref gC) "over" = some none)
    (icf4 : PySem.W.findIn K (.ref gC) "under" = some none)
    (icq0 : PySem.W.kitOne K (.type "NoneType") (.ref gC) = some false)
    (icqa0 : PySem.W.kitOne K (.type "int") (.ref gC) = some false)
    (icqa1 : PySem.W.kitOne K (.type "bool") (.ref gC) = some false)
    (icqa2 : PySem.W.kitOne K (.type "str") (.ref gC) = some false)
    (icqa3 : PySem.W.kitOne K (.type "tuple") (.ref gC) = some false)
    (icqa4 : PySem.W.kitOne K (.type "list") (.ref gC) = some false)
    (icqa5 : PySem.W.kitOne K (.type "dict") (.ref gC) = some false)
    (icqb0 : PySem.W.kitOne K (.ref gC) (.type "int") = some false)
    (icqb1 : PySem.W.kitOne K (.ref gC) (.type "bool") = some false)
    (icqb2 : PySem.W.kitOne K (.ref gC) (.type "str") = some false)
    (icqb3 : PySem.W.kitOne K (.ref gC) (.type "tuple") = some false)
    (icqb4 : PySem.W.kitOne K (.ref gC) (.type "list") = some false)
    (icqb5 : PySem.W.kitOne K (.ref gC) (.type "dict") = some false)
    (icqc : PySem.W.kitOne K (.ref gC) (.ref gC) = some true)
    (xa0 : PySem.W.nsIn K mainGlobals "PointError" = some (some (.ref xA0)))
    (xa2 : PySem.W.nsIn K mainGlobals "NoExact" = some (some (.ref xA2)))
    (xa3 : PySem.W.nsIn K mainGlobals "Undone" = some (some (.ref xA3)))
    (xa4 : PySem.W.nsIn K mainGlobals "NoBottom" = some (some (.ref xA4)))
    (xa5 : PySem.W.nsIn K mainGlobals "NoWay" = some (some (.ref xA5)))
    (xa6 : PySem.W.nsIn K mainGlobals "Missing" = some (some (.ref xA6)))
    (xa7 : PySem.W.nsIn K mainGlobals "NoText" = some (some (.ref xA7)))
    (xa8 : PySem.W.nsIn K mainGlobals "NoLine" = some (some (.ref xA8)))
    (xa9 : PySem.W.nsIn K mainGlobals "NoRow" = some (some (.ref xA9)))
    (xa10 : PySem.W.nsIn K mainGlobals "NoBack" = some (some (.ref xA10)))
    (xa11 : PySem.W.nsIn K mainGlobals "TwoRoots" = some (some (.ref xA11)))
    (xa12 : PySem.W.nsIn K mainGlobals "NotPlain" = some (some (.ref xA12)))
    (xa13 : PySem.W.nsIn K mainGlobals "NeverDone" = some (some (.ref xA13)))
    (xa14 : PySem.W.nsIn K mainGlobals "NoDeed" = some (some (.ref xA14)))
    (xa15 : PySem.W.nsIn K mainGlobals "NoFit" = some (some (.ref xA15)))
    (xa16 : PySem.W.nsIn K mainGlobals "Taken" = some (some (.ref xA16)))
    (xxga_2 : PySem.W.findIn K (.ref xA2) "__getattribute__" = some (some (.builtin "BaseException.__getattribute__")))
    (xxgg_2 : PySem.W.findIn K (.ref xA2) "__getattr__" = some none)
    (xxxp_2 : PySem.W.excIn K xA2 [.type "ValueError", .type "Exception", .type "BaseException", .type "object"] "ValueError.__new__" = true)
    (xxkc_2 : PySem.W.keepIn K (.ref xA2) = true)
    (xxec_2 : PySem.W.subIn K (.ref xA2) (.type "BaseException") = some true)
    (xxtc_2 : PySem.W.typeIn K (.ref xA2) = some (.type "type"))
    (xxhd_2 : PySem.W.hasDictIn K xA2 = true)
    (xxha_2 : PySem.W.findIn K (.ref xA2) "__class__" = some (some (.builtin "object.__class__")))
    (xxhn_2 : PySem.W.specialIn K (.builtin "object.__class__") "__get__" = some (some (.builtin "getset_descriptor.__get__")))
    (xxht_2 : PySem.W.takesIn K (.builtin "object.__class__") = some true)
    (xxhm_2 : PySem.W.mroIn K xA2 (.type "object") = some true)
    (xxk0_2 : PySem.W.kitOne K (.ref xA2) (.ref xA0) = some true)
    (xxe0_2 : PySem.W.exmOne K (.ref xA2) (.ref xA0) = some true)
    (xxk1_2 : PySem.W.kitOne K (.ref xA2) (.type "ValueError") = some true)
    (xxe1_2 : PySem.W.exmOne K (.ref xA2) (.type "ValueError") = some true)
    (xxk2_2 : PySem.W.kitOne K (.ref xA2) (.ref xA2) = some true)
    (xxe2_2 : PySem.W.exmOne K (.ref xA2) (.ref xA2) = some true)
    (xxk3_2 : PySem.W.kitOne K (.ref xA2) (.ref xA3) = some false)
    (xxe3_2 : PySem.W.exmOne K (.ref xA2) (.ref xA3) = some false)
    (xxk4_2 : PySem.W.kitOne K (.ref xA2) (.ref xA4) = some false)
    (xxe4_2 : PySem.W.exmOne K (.ref xA2) (.ref xA4) = some false)
    (xxk5_2 : PySem.W.kitOne K (.ref xA2) (.ref xA5) = some false)
    (xxe5_2 : PySem.W.exmOne K (.ref xA2) (.ref xA5) = some false)
    (xxk6_2 : PySem.W.kitOne K (.ref xA2) (.ref xA6) = some false)
    (xxe6_2 : PySem.W.exmOne K (.ref xA2) (.ref xA6) = some false)
    (xxk7_2 : PySem.W.kitOne K (.ref xA2) (.ref xA7) = some false)
    (xxe7_2 : PySem.W.exmOne K (.ref xA2) (.ref xA7) = some false)
    (xxk8_2 : PySem.W.kitOne K (.ref xA2) (.ref xA8) = some false)
    (xxe8_2 : PySem.W.exmOne K (.ref xA2) (.ref xA8) = some false)
    (xxk9_2 : PySem.W.kitOne K (.ref xA2) (.ref xA9) = some false)
    (xxe9_2 : PySem.W.exmOne K (.ref xA2) (.ref xA9) = some false)
    (xxk10_2 : PySem.W.kitOne K (.ref xA2) (.ref xA10) = some false)
    (xxe10_2 : PySem.W.exmOne K (.ref xA2) (.ref xA10) = some false)
    (xxk11_2 : PySem.W.kitOne K (.ref xA2) (.ref xA11) = some false)
    (xxe11_2 : PySem.W.exmOne K (.ref xA2) (.ref xA11) = some false)
    (xxk12_2 : PySem.W.kitOne K (.ref xA2) (.ref xA12) = some false)
    (xxe12_2 : PySem.W.exmOne K (.ref xA2) (.ref xA12) = some false)
    (xxk13_2 : PySem.W.kitOne K (.ref xA2) (.ref xA13) = some false)
    (xxe13_2 : PySem.W.exmOne K (.ref xA2) (.ref xA13) = some false)
    (xxk14_2 : PySem.W.kitOne K (.ref xA2) (.ref xA14) = some false)
    (xxe14_2 : PySem.W.exmOne K (.ref xA2) (.ref xA14) = some false)
    (xxk15_2 : PySem.W.kitOne K (.ref xA2) (.ref xA15) = some false)
    (xxe15_2 : PySem.W.exmOne K (.ref xA2) (.ref xA15) = some false)
    (xxk16_2 : PySem.W.kitOne K (.ref xA2) (.ref xA16) = some false)
    (xxe16_2 : PySem.W.exmOne K (.ref xA2) (.ref xA16) = some false)
    : TextOk P w (xW T.xs T.cs K) mg T := by
  have hx : GoodX (xW T.xs T.cs K) T mg := ⟨fun c d e => match c, e with | 0, e => (by cases e; exact xn_own X G rfl rfl xa0) | 1, e => (by cases e; exact xn_ty (t := "ValueError") X G rfl z0 (by decide +kernel)) | 2, e => (by cases e; exact xn_own X G rfl rfl xa2) | 3, e => (by cases e; exact xn_own X G rfl rfl xa3) | 4, e => (by cases e; exact xn_own X G rfl rfl xa4) | 5, e => (by cases e; exact xn_own X G rfl rfl xa5) | 6, e => (by cases e; exact xn_own X G rfl rfl xa6) | 7, e => (by cases e; exact xn_own X G rfl rfl xa7) | 8, e => (by cases e; exact xn_own X G rfl rfl xa8) | 9, e => (by cases e; exact xn_own X G rfl rfl xa9) | 10, e => (by cases e; exact xn_own X G rfl rfl xa10) | 11, e => (by cases e; exact xn_own X G rfl rfl xa11) | 12, e => (by cases e; exact xn_own X G rfl rfl xa12) | 13, e => (by cases e; exact xn_own X G rfl rfl xa13) | 14, e => (by cases e; exact xn_own X G rfl rfl xa14) | 15, e => (by cases e; exact xn_own X G rfl rfl xa15) | 16, e => (by cases e; exact xn_own X G rfl rfl xa16) | _ + 17, e => (by cases e), fun c d C hc hf he => match c, hc with | 0, hc => (by cases hc; exact hf.elim (fun z => absurd rfl z) (fun z => by cases z)) | 1, hc => (by cases hc; exact hf.elim (fun z => absurd rfl z) (fun z => by cases z)) | 2, hc => (by cases hc; obtain rfl := x_adr (ys := T.xs) (zs := T.cs) rfl rfl xa2 he; exact ⟨⟨fun z => absurd rfl z, fun _ => ⟨⟨_, _, _, _, PySem.F.excBase_ValueError, xxxp_2⟩, xxkc_2, xxec_2, xxtc_2⟩⟩, ⟨xxga_2, xxgg_2, xxec_2, xxhd_2, xxha_2, xxhn_2, xxht_2, xxhm_2⟩, ⟨xxga_2, xxgg_2, xxec_2, xxhd_2⟩, (fun f hf => by simp [T] at hf), fun c2 d2 v h2 hv => match c2, h2 with | 0, h2 => (by cases h2; obtain rfl := Option.some.inj ((xv_own (zs := T.cs) rfl rfl xa0).symm.trans hv); exact ⟨xxk0_2, xxe0_2⟩) | 1, h2 => (by cases h2; obtain rfl := Option.some.inj ((xv_ty rfl).symm.trans hv); exact ⟨xxk1_2, xxe1_2⟩) | 2, h2 => (by cases h2; obtain rfl := Option.some.inj ((xv_own (zs := T.cs) rfl rfl xa2).symm.trans hv); exact ⟨xxk2_2, xxe2_2⟩) | 3, h2 => (by cases h2; obtain rfl := Option.some.inj ((xv_own (zs := T.cs) rfl rfl xa3).symm.trans hv); exact ⟨xxk3_2, xxe3_2⟩) | 4, h2 => (by cases h2; obtain rfl := Option.some.inj ((xv_own (zs := T.cs) rfl rfl xa4).symm.trans hv); exact ⟨xxk4_2, xxe4_2⟩) | 5, h2 => (by cases h2; obtain rfl := Option.some.inj ((xv_own (zs := T.cs) rfl rfl xa5).symm.trans hv); exact ⟨xxk5_2, xxe5_2⟩) | 6, h2 => (by cases h2; obtain rfl := Option.some.inj ((xv_own (zs := T.cs) rfl rfl xa6).symm.trans hv); exact ⟨xxk6_2, xxe6_2⟩) | 7, h2 => (by cases h2; obtain rfl := Option.some.inj ((xv_own (zs := T.cs) rfl rfl xa7).symm.trans hv); exact ⟨xxk7_2, xxe7_2⟩) | 8, h2 => (by cases h2; obtain rfl := Option.some.inj ((xv_own (zs := T.cs) rfl rfl xa8).symm.trans hv); exact ⟨xxk8_2, xxe8_2⟩) | 9, h2 => (by cases h2; obtain rfl := Option.some.inj ((xv_own (zs := T.cs) rfl rfl xa9).symm.trans hv); exact ⟨xxk9_2, xxe9_2⟩) | 10, h2 => (by cases h2; obtain rfl := Option.some.inj ((xv_own (zs := T.cs) rfl rfl xa10).symm.trans hv); exact ⟨xxk10_2, xxe10_2⟩) | 11, h2 => (by cases h2; obtain rfl := Option.some.inj ((xv_own (zs := T.cs) rfl rfl xa11).symm.trans hv); exact ⟨xxk11_2, xxe11_2⟩) | 12, h2 => (by cases h2; obtain rfl := Option.some.inj ((xv_own (zs := T.cs) rfl rfl xa12).symm.trans hv); exact ⟨xxk12_2, xxe12_2⟩) | 13, h2 => (by cases h2; obtain rfl := Option.some.inj ((xv_own (zs := T.cs) rfl rfl xa13).symm.trans hv); exact ⟨xxk13_2, xxe13_2⟩) | 14, h2 => (by cases h2; obtain rfl := Option.some.inj ((xv_own (zs := T.cs) rfl rfl xa14).symm.trans hv); exact ⟨xxk14_2, xxe14_2⟩) | 15, h2 => (by cases h2; obtain rfl := Option.some.inj ((xv_own (zs := T.cs) rfl rfl xa15).symm.trans hv); exact ⟨xxk15_2, xxe15_2⟩) | 16, h2 => (by cases h2; obtain rfl := Option.some.inj ((xv_own (zs := T.cs) rfl rfl xa16).symm.trans hv); exact ⟨xxk16_2, xxe16_2⟩) | _ + 17, h2 => (by cases h2)⟩) | 3, hc => (by cases hc; exact hf.elim (fun z => absurd rfl z) (fun z => by cases z)) | 4, hc => (by cases hc; exact hf.elim (fun z => absurd rfl z) (fun z => by cases z)) | 5, hc => (by cases hc; exact hf.elim (fun z => absurd rfl z) (fun z => by cases z)) | 6, hc => (by cases hc; exact hf.elim (fun z => absurd rfl z) (fun z => by cases z)) | 7, hc => (by cases hc; exact hf.elim (fun z => absurd rfl z) (fun z => by cases z)) | 8, hc => (by cases hc; exact hf.elim (fun z => absurd rfl z) (fun z => by cases z)) | 9, hc => (by cases hc; exact hf.elim (fun z => absurd rfl z) (fun z => by cases z)) | 10, hc => (by cases hc; exact hf.elim (fun z => absurd rfl z) (fun z => by cases z)) | 11, hc => (by cases hc; exact hf.elim (fun z => absurd rfl z) (fun z => by cases z)) | 12, hc => (by cases hc; exact hf.elim (fun z => absurd rfl z) (fun z => by cases z)) | 13, hc => (by cases hc; exact hf.elim (fun z => absurd rfl z) (fun z => by cases z)) | 14, hc => (by cases hc; exact hf.elim (fun z => absurd rfl z) (fun z => by cases z)) | 15, hc => (by cases hc; exact hf.elim (fun z => absurd rfl z) (fun z => by cases z)) | 16, hc => (by cases hc; exact hf.elim (fun z => absurd rfl z) (fun z => by cases z)) | _ + 17, hc => (by cases hc)⟩
  refine mk_text (fun f d hd => ?_) (fun gi x v e => ?_) (fun gi x kvs e => ?_) (fun x hx => ?_) (gc_one X G rfl icC ⟨⟨icpg, ichd, icpo, icsa⟩, icha, ichn, icht, ichm⟩ (fun f hf => by simp at hf; rcases hf with rfl | rfl | rfl | rfl | rfl <;> assumption) rfl ⟨_, rfl, by decide⟩ icq0 (fun n hn => by simp [flatNs] at hn; rcases hn with rfl | rfl | rfl | rfl | rfl | rfl <;> assumption) (fun n hn => by simp [flatNs] at hn; rcases hn with rfl | rfl | rfl | rfl | rfl | rfl <;> assumption) icqc) hx
  · match f, hd with
    | 0, hd => cases hd; exact mk_def (st := s0) X G "is_whole" rfl a0 l0 m0 k0 sc0 (by decide) (fun kV doc pm an cdv ct us hl => b0 kV doc pm an cdv ct us hl) c0 (by decide) (fun q v e z => match q, e with | _ + 0, e => (by cases e))
    | 1, hd => cases hd; exact mk_def (st := s1) X G "lowest" rfl a1 l1 m1 k1 sc1 (by decide) (fun kV doc pm an cdv ct us hl => b1 kV doc pm an cdv ct us hl) c1 (by decide) (fun q v e z => match q, e with | _ + 0, e => (by cases e))
    | 2, hd => cases hd; exact mk_def (st := s2) X G "whole_root" rfl a2 l2 m2 k2 sc2 (by decide) (fun kV doc pm an cdv ct us hl => b2 kV doc pm an cdv ct us hl) c2 (by decide) (fun q v e z => match q, e with | _ + 0, e => (by cases e))
    | 3, hd => cases hd; exact mk_def (st := s3) X G "root_of" rfl a3 l3 m3 k3 sc3 (by decide) (fun kV doc pm an cdv ct us hl => b3 kV doc pm an cdv ct us hl) c3 (by decide) (fun q v e z => match q, e with | _ + 0, e => (by cases e))
    | 4, hd => cases hd; exact mk_def (st := s4) X G "sum_of" rfl a4 l4 m4 k4 sc4 (by decide) (fun kV doc pm an cdv ct us hl => b4 kV doc pm an cdv ct us hl) c4 (by decide) (fun q v e z => match q, e with | _ + 0, e => (by cases e))
    | 5, hd => cases hd; exact mk_def (st := s5) X G "are_right" rfl a5 l5 m5 k5 sc5 (by decide) (fun kV doc pm an cdv ct us hl => b5 kV doc pm an cdv ct us hl) c5 (by decide) (fun q v e z => match q, e with | _ + 0, e => (by cases e))
    | 6, hd => cases hd; exact mk_def (st := s6) X G "_law_deck" rfl a6 l6 m6 k6 sc6 (by decide) (fun kV doc pm an cdv ct us hl => b6 kV doc pm an cdv ct us hl) c6 (by decide) (fun q v e z => match q, e with | _ + 0, e => (by cases e))
    | 7, hd => cases hd; exact mk_def (st := s7) X G "_law_draw" rfl a7 l7 m7 k7 sc7 (by decide) (fun kV doc pm an cdv ct us hl => b7 kV doc pm an cdv ct us hl) c7 (by decide) (fun q v e z => match q, e with | _ + 0, e => (by cases e))
    | 8, hd => cases hd; exact mk_def (st := s8) X G "_law_lowest" rfl a8 l8 m8 k8 sc8 (by decide) (fun kV doc pm an cdv ct us hl => b8 kV doc pm an cdv ct us hl) c8 (by decide) (fun q v e z => match q, e with | _ + 0, e => (by cases e))
    | 9, hd => cases hd; exact mk_def (st := s9) X G "_law_square_root" rfl a9 l9 m9 k9 sc9 (by decide) (fun kV doc pm an cdv ct us hl => b9 kV doc pm an cdv ct us hl) c9 (by decide) (fun q v e z => match q, e with | _ + 0, e => (by cases e))
    | 10, hd => cases hd; exact mk_def (st := s10) X G "_law_root" rfl a10 l10 m10 k10 sc10 (by decide) (fun kV doc pm an cdv ct us hl => b10 kV doc pm an cdv ct us hl) c10 (by decide) (fun q v e z => match q, e with | _ + 0, e => (by cases e))
    | 11, hd => cases hd; exact mk_def (st := s11) X G "_law_form" rfl a11 l11 m11 k11 sc11 (by decide) (fun kV doc pm an cdv ct us hl => b11 kV doc pm an cdv ct us hl) c11 (by decide) (fun q v e z => match q, e with | _ + 0, e => (by cases e))
    | 12, hd => cases hd; exact mk_def (st := s12) X G "_law_whole" rfl a12 l12 m12 k12 sc12 (by decide) (fun kV doc pm an cdv ct us hl => b12 kV doc pm an cdv ct us hl) c12 (by decide) (fun q v e z => match q, e with | _ + 0, e => (by cases e))
    | 13, hd => cases hd; exact mk_def (st := s13) X G "_law_five" rfl a13 l13 m13 k13 sc13 (by decide) (fun kV doc pm an cdv ct us hl => b13 kV doc pm an cdv ct us hl) c13 (by decide) (fun q v e z => match q, e with | _ + 0, e => (by cases e))
    | 14, hd => cases hd; exact mk_def (st := s14) X G "_law_made" rfl a14 l14 m14 k14 sc14 (by decide) (fun kV doc pm an cdv ct us hl => b14 kV doc pm an cdv ct us hl) c14 (by decide) (fun q v e z => match q, e with | _ + 0, e => (by cases e))
    | 15, hd => cases hd; exact mk_def (st := s15) X G "_law_fields" rfl a15 l15 m15 k15 sc15 (by decide) (fun kV doc pm an cdv ct us hl => b15 kV doc pm an cdv ct us hl) c15 (by decide) (fun q v e z => match q, e with | _ + 0, e => (by cases e))
    | 16, hd => cases hd; exact mk_def (st := s16) X G "_law_is" rfl a16 l16 m16 k16 sc16 (by decide) (fun kV doc pm an cdv ct us hl => b16 kV doc pm an cdv ct us hl) c16 (by decide) (fun q v e z => match q, e with | _ + 0, e => (by cases e))
    | 17, hd => cases hd; exact mk_def (st := s17) X G "_law_by_names" rfl a17 l17 m17 k17 sc17 (by decide) (fun kV doc pm an cdv ct us hl => b17 kV doc pm an cdv ct us hl) c17 (by decide) (fun q v e z => match q, e with | _ + 0, e => (by cases e))
    | 18, hd => cases hd; exact mk_def (st := s18) X G "_law_is_right" rfl a18 l18 m18 k18 sc18 (by decide) (fun kV doc pm an cdv ct us hl => b18 kV doc pm an cdv ct us hl) c18 (by decide) (fun q v e z => match q, e with | _ + 0, e => (by cases e))
    | 19, hd => cases hd; exact mk_def (st := s19) X G "_law_great" rfl a19 l19 m19 k19 sc19 (by decide) (fun kV doc pm an cdv ct us hl => b19 kV doc pm an cdv ct us hl) c19 (by decide) (fun q v e z => match q, e with | _ + 0, e => (by cases e))
    | 20, hd => cases hd; exact mk_def (st := s20) X G "_law_odd" rfl a20 l20 m20 k20 sc20 (by decide) (fun kV doc pm an cdv ct us hl => b20 kV doc pm an cdv ct us hl) c20 (by decide) (fun q v e z => match q, e with | _ + 0, e => (by cases e))
    | 21, hd => cases hd; exact mk_def (st := s21) X G "_law_told" rfl a21 l21 m21 k21 sc21 (by decide) (fun kV doc pm an cdv ct us hl => b21 kV doc pm an cdv ct us hl) c21 (by decide) (fun q v e z => match q, e with | _ + 0, e => (by cases e))
    | 22, hd => cases hd; exact mk_def (st := s22) X G "law" rfl a22 l22 m22 k22 sc22 (by decide) (fun kV doc pm an cdv ct us hl => b22 kV doc pm an cdv ct us hl) c22 (by decide) (fun q v e z => match q, e with | _ + 0, e => (by cases e))
    | 23, hd => cases hd; exact mk_ini (e := ⟨"Exact", 23, ["top", "bottom", "sign", "over", "under"]⟩) (st := s23) X G rfl rfl icC ⟨icmk, icin, icfn, ickc⟩ icl icm sc23 c23 (by decide) (fun q v e z => match q, e with | 0, e => (by cases e; exact kb0 (F := ⟨⟨_, _, _, _, _, _, _, _, _, _, rfl, icl, icm, .inr ⟨by simp, dT, _, [.int 1 dpt0], _, rfl, ict, rfl, .cons ⟨_, rfl⟩ (.nil)⟩, .inr ⟨dD, rfl, fun q hq => by simp at hq; rcases hq with rfl | rfl | rfl <;> exact ⟨_, by assumption, ⟨_, rfl⟩⟩⟩⟩, ick⟩)) | 1, e => (by cases e; exact kb1 (F := ⟨⟨_, _, _, _, _, _, _, _, _, _, rfl, icl, icm, .inr ⟨by simp, dT, _, [.int 1 dpt0], _, rfl, ict, rfl, .cons ⟨_, rfl⟩ (.nil)⟩, .inr ⟨dD, rfl, fun q hq => by simp at hq; rcases hq with rfl | rfl | rfl <;> exact ⟨_, by assumption, ⟨_, rfl⟩⟩⟩⟩, ick⟩)) | 2, e => (by cases e; exact kb2 (F := ⟨⟨_, _, _, _, _, _, _, _, _, _, rfl, icl, icm, .inr ⟨by simp, dT, _, [.int 1 dpt0], _, rfl, ict, rfl, .cons ⟨_, rfl⟩ (.nil)⟩, .inr ⟨dD, rfl, fun q hq => by simp at hq; rcases hq with rfl | rfl | rfl <;> exact ⟨_, by assumption, ⟨_, rfl⟩⟩⟩⟩, ick⟩)) | 3, e => (by cases e; exact kb3 (F := ⟨⟨_, _, _, _, _, _, _, _, _, _, rfl, icl, icm, .inr ⟨by simp, dT, _, [.int 1 dpt0], _, rfl, ict, rfl, .cons ⟨_, rfl⟩ (.nil)⟩, .inr ⟨dD, rfl, fun q hq => by simp at hq; rcases hq with rfl | rfl | rfl <;> exact ⟨_, by assumption, ⟨_, rfl⟩⟩⟩⟩, ick⟩)) | 4, e => (by cases e; exact kb4 (F := ⟨⟨_, _, _, _, _, _, _, _, _, _, rfl, icl, icm, .inr ⟨by simp, dT, _, [.int 1 dpt0], _, rfl, ict, rfl, .cons ⟨_, rfl⟩ (.nil)⟩, .inr ⟨dD, rfl, fun q hq => by simp at hq; rcases hq with rfl | rfl | rfl <;> exact ⟨_, by assumption, ⟨_, rfl⟩⟩⟩⟩, ick⟩)) | 5, e => (by cases e; exact kb5 (F := ⟨⟨_, _, _, _, _, _, _, _, _, _, rfl, icl, icm, .inr ⟨by simp, dT, _, [.int 1 dpt0], _, rfl, ict, rfl, .cons ⟨_, rfl⟩ (.nil)⟩, .inr ⟨dD, rfl, fun q hq => by simp at hq; rcases hq with rfl | rfl | rfl <;> exact ⟨_, by assumption, ⟨_, rfl⟩⟩⟩⟩, ick⟩)) | 6, e => (by cases e; exact kb6 (F := ⟨⟨_, _, _, _, _, _, _, _, _, _, rfl, icl, icm, .inr ⟨by simp, dT, _, [.int 1 dpt0], _, rfl, ict, rfl, .cons ⟨_, rfl⟩ (.nil)⟩, .inr ⟨dD, rfl, fun q hq => by simp at hq; rcases hq with rfl | rfl | rfl <;> exact ⟨_, by assumption, ⟨_, rfl⟩⟩⟩⟩, ick⟩)) | 7, e => (by cases e; exact kb7 (F := ⟨⟨_, _, _, _, _, _, _, _, _, _, rfl, icl, icm, .inr ⟨by simp, dT, _, [.int 1 dpt0], _, rfl, ict, rfl, .cons ⟨_, rfl⟩ (.nil)⟩, .inr ⟨dD, rfl, fun q hq => by simp at hq; rcases hq with rfl | rfl | rfl <;> exact ⟨_, by assumption, ⟨_, rfl⟩⟩⟩⟩, ick⟩)) | _ + 8, e => (by cases e))
    | _ + 24, hd => cases hd
  · match gi, e with
    | _ + 0, e => cases e
  · match gi, e with
    | _ + 0, e => cases e
  · have hx : x = "ValueError" ∨ x = "abs" ∨ x = "all" ∨ x = "bool" ∨ x = "int" ∨ x = "isinstance" ∨ x = "list" ∨ x = "min" ∨ x = "range" ∨ x = "repr" ∨ x = "sum" := by simpa [T] using hx
    rcases hx with rfl | rfl | rfl | rfl | rfl | rfl | rfl | rfl | rfl | rfl | rfl
    · exact PySem.W.mg_none_of X G z0
    · exact PySem.W.mg_none_of X G z1
    · exact PySem.W.mg_none_of X G z2
    · exact PySem.W.mg_none_of X G z3
    · exact PySem.W.mg_none_of X G z4
    · exact PySem.W.mg_none_of X G z5
    · exact PySem.W.mg_none_of X G z6
    · exact PySem.W.mg_none_of X G z7
    · exact PySem.W.mg_none_of X G z8
    · exact PySem.W.mg_none_of X G z9
    · exact PySem.W.mg_none_of X G z10
end K00

namespace K00
/-! ### roots and lowest terms, plain -/
def isq : Nat → Nat
  | 0 => 0
  | n + 1 => if (isq n + 1) * (isq n + 1) ≤ n + 1 then isq n + 1 else isq n
theorem isq_ok : ∀ n : Nat, isq n * isq n ≤ n ∧ n < (isq n + 1) * (isq n + 1)
  | 0 => ⟨Nat.le_refl _, by decide⟩
  | n + 1 => by
    obtain ⟨h1, h2⟩ := isq_ok n
    unfold isq
    split
    · rename_i h
      refine ⟨h, ?_⟩
      have : (isq n + 1 + 1) * (isq n + 1 + 1) = (isq n + 1) * (isq n + 1) + 2 * (isq n + 1) + 1 := by
        rw [Nat.add_mul, Nat.mul_add]
        omega
      omega
    · omega
theorem sq_lt {a b : Nat} (h : a * a < b * b) : a < b := by
  cases Nat.lt_or_ge a b with
  | inl h => exact h
  | inr h' => exact absurd (Nat.mul_le_mul h' h') (by omega)
theorem isq_uniq {n r : Nat} (h1 : r * r ≤ n) (h2 : n < (r + 1) * (r + 1)) : r = isq n := by
  obtain ⟨k1, k2⟩ := isq_ok n
  have a := sq_lt (Nat.lt_of_le_of_lt h1 k2)
  have b := sq_lt (Nat.lt_of_le_of_lt k1 h2)
  omega
theorem isq_mono {n r : Nat} (h : n < (r + 1) * (r + 1)) : isq n ≤ r := by
  have := sq_lt (Nat.lt_of_le_of_lt (isq_ok n).1 h)
  omega
/-- a Newton step stays at or above the root -/
theorem newton_ge {n x : Nat} (hx : 0 < x) : isq n ≤ (x + n / x) / 2 := by
  refine isq_mono ?_
  have hd := Nat.lt_mul_div_succ n hx
  generalize n / x = q at *
  -- n < x * (q + 1), s := (x + q) / 2, 2 s + 2 > x + q + 0
  have hs : x + (q + 1) ≤ 2 * ((x + q) / 2 + 1) := by omega
  generalize (x + q) / 2 + 1 = s at *
  generalize q + 1 = y at *
  have e : (x + y) * (x + y) = x * x + 2 * (x * y) + y * y := by
    rw [Nat.add_mul, Nat.mul_add, Nat.mul_add, Nat.mul_comm y x]
    omega
  have am : 2 * (x * y) ≤ x * x + y * y := by
    rcases Nat.le_total x y with h | h
    · obtain ⟨d, rfl⟩ := Nat.exists_eq_add_of_le h
      have : (x + d) * (x + d) = x * x + 2 * (x * d) + d * d := by
        rw [Nat.add_mul, Nat.mul_add, Nat.mul_add, Nat.mul_comm d x]
        omega
      rw [this, Nat.mul_add]
      omega
    · obtain ⟨d, rfl⟩ := Nat.exists_eq_add_of_le h
      have : (y + d) * (y + d) = y * y + 2 * (y * d) + d * d := by
        rw [Nat.add_mul, Nat.mul_add, Nat.mul_add, Nat.mul_comm d y]
        omega
      rw [this, Nat.add_mul, Nat.mul_comm d y]
      omega
  have h2 : (x + y) * (x + y) ≤ (2 * s) * (2 * s) := Nat.mul_le_mul hs hs
  have h3 : (2 * s) * (2 * s) = 4 * (s * s) := by
    rw [Nat.mul_mul_mul_comm]
  omega
/-- above the root it goes down -/
theorem newton_lt {n x : Nat} (h : isq n < x) : (x + n / x) / 2 < x := by
  have hx : 0 < x := by omega
  have hlt : n < x * x := by
    have := (isq_ok n).2
    have m := Nat.mul_le_mul (show isq n + 1 ≤ x by omega) (show isq n + 1 ≤ x by omega)
    omega
  have : n / x < x := Nat.div_lt_of_lt_mul hlt
  omega
/-! ### Euclid's turns -/
def est : Nat → Nat → Nat
  | x, 0 => 0
  | x, y + 1 => 1 + est (y + 1) (x % (y + 1))
termination_by _ y => y
decreasing_by exact Nat.mod_lt _ (Nat.succ_pos _)
theorem est_pos {x y : Nat} (h : y ≠ 0) : est x y = 1 + est y (x % y) := by
  cases y with
  | zero => exact absurd rfl h
  | succ y => rw [est]
theorem est_le : ∀ (k x y : Nat), y < 2 ^ k → est x y ≤ 2 * k
  | 0, x, y, h => by
    have : y = 0 := by simpa using h
    subst this
    rw [est]
    exact Nat.le_refl _
  | k + 1, x, y, h => by
    by_cases h0 : y = 0
    · subst h0; rw [est]; omega
    rw [est_pos h0]
    by_cases h1 : x % y = 0
    · rw [h1, est]; omega
    rw [est_pos h1]
    have hm := Nat.mod_lt x (Nat.pos_of_ne_zero h0)
    generalize x % y = r at *
    have hr : y % r < 2 ^ k := by
      have := Nat.mod_lt y (Nat.pos_of_ne_zero h1)
      have p : 2 ^ (k + 1) = 2 * 2 ^ k := by rw [Nat.pow_succ]; omega
      by_cases c : r ≤ y / 2
      · omega
      · have : y % r = y - r := by
          rw [Nat.mod_eq_sub_mod (by omega), Nat.mod_eq_of_lt (by omega)]
        omega
    have := est_le k r (y % r) hr
    omega
end K00

namespace K00
/-! ### numbers of one root, plain -/
def lo (a b : Int) : Int × Int := (a.fdiv (Int.gcd a b : Nat), b.fdiv (Int.gcd a b : Nat))
theorem gcd_pos {a b : Int} (h : 0 < b) : 0 < Int.gcd a b := Int.gcd_pos_of_ne_zero_right _ (by omega)
theorem lo_ex {a b : Int} (h : 0 < b) : ∃ (g : Nat) (a' b' : Int), 0 < g ∧ g = Int.gcd a b ∧ a = g * a' ∧ b = g * b' ∧ Int.gcd a' b' = 1 ∧ 0 < b' ∧ lo a b = (a', b') := by
  have hg := gcd_pos (a := a) h
  obtain ⟨a', ha⟩ := Int.gcd_dvd_left a b
  obtain ⟨b', hb⟩ := Int.gcd_dvd_right a b
  have hg' : ((Int.gcd a b : Nat) : Int) ≠ 0 := by omega
  refine ⟨Int.gcd a b, a', b', hg, rfl, ha, hb, ?_, ?_, ?_⟩
  · have e : Int.gcd a b = Int.gcd a b * Int.gcd a' b' := by
      have := Int.gcd_mul_left (Int.gcd a b : Nat) a' b'
      rw [← ha, ← hb] at this
      simpa using this
    exact Nat.eq_of_mul_eq_mul_left hg (by omega)
  · rcases Int.lt_or_le 0 b' with h' | h'
    · exact h'
    · have := Int.mul_le_mul_of_nonneg_left h' (show (0 : Int) ≤ (Int.gcd a b : Nat) by omega)
      rw [← hb] at this
      omega
  · unfold lo
    congr 1
    · generalize hG : ((Int.gcd a b : Nat) : Int) = G at *
      rw [ha]
      exact Int.mul_fdiv_cancel_left _ hg'
    · generalize hG : ((Int.gcd a b : Nat) : Int) = G at *
      rw [hb]
      exact Int.mul_fdiv_cancel_left _ hg'
theorem lo_red {a b : Int} (h : Int.gcd a b = 1) : lo a b = (a, b) := by
  unfold lo
  rw [h]
  simp
theorem lo_two {a b : Int} (h : 0 < b) : 0 < (lo a b).2 ∧ Int.gcd (lo a b).1 (lo a b).2 = 1 := by
  obtain ⟨g, a', b', h1, h2, h3, h4, h5, h6, h7⟩ := lo_ex (a := a) h
  rw [h7]
  exact ⟨h6, h5⟩
theorem lo_abs {a b : Int} (h : 0 < b) : (lo a b).1.natAbs ≤ a.natAbs ∧ (lo a b).2 ≤ b ∧ (0 ≤ a → 0 ≤ (lo a b).1) := by
  obtain ⟨g, a', b', h1, h2, h3, h4, h5, h6, h7⟩ := lo_ex (a := a) h
  rw [h7]
  refine ⟨?_, ?_, fun ha => ?_⟩
  · show a'.natAbs ≤ a.natAbs
    rw [h3, Int.natAbs_mul]
    exact Nat.le_mul_of_pos_left _ (by omega)
  · show b' ≤ b
    rw [h4]
    have := Int.mul_le_mul_of_nonneg_right (show (1 : Int) ≤ g by omega) (show 0 ≤ b' by omega)
    omega
  · show 0 ≤ a'
    rcases Int.lt_or_le a' 0 with h' | h'
    · have := Int.mul_lt_mul_of_pos_left h' (show (0 : Int) < g by omega)
      rw [← h3] at this
      omega
    · exact h'
def rt (p : Int × Int) : Option (Int × Int) := if isq p.1.toNat * isq p.1.toNat = p.1.toNat ∧ isq p.2.toNat * isq p.2.toNat = p.2.toNat then some ((isq p.1.toNat : Nat), (isq p.2.toNat : Nat)) else none
theorem rt_some {p q : Int × Int} (h : rt p = some q) (hp : 0 < p.2) (h0 : 0 ≤ p.1) : 0 < q.2 ∧ 0 ≤ q.1 ∧ q.1 * q.1 = p.1 ∧ q.2 * q.2 = p.2 := by
  unfold rt at h
  split at h
  · rename_i hs
    cases h
    obtain ⟨h1, h2⟩ := hs
    generalize isq p.1.toNat = x at *
    generalize isq p.2.toNat = y at *
    have e1 : ((x : Int) * x) = p.1 := by
      rw [← Int.natCast_mul, h1]
      omega
    have e2 : ((y : Int) * y) = p.2 := by
      rw [← Int.natCast_mul, h2]
      omega
    refine ⟨?_, Int.natCast_nonneg _, e1, e2⟩
    show (0 : Int) < (y : Int)
    rcases Nat.eq_zero_or_pos y with h | h
    · subst h
      simp at e2
      omega
    · omega
  · cases h
theorem rt_01 : rt (0, 1) = some (0, 1) := by decide
theorem lo_01 : lo 0 1 = (0, 1) := by decide
structure Five (t b s o u : Int) : Prop where
  b : 0 < b
  u : 0 < u
  o : 0 ≤ o
  s : -1 ≤ s ∧ s ≤ 1
abbrev T5 := Int × Int × Int × Int × Int
def form (t b s o u : Int) : T5 := match rt (lo o u) with
  | some q => ((lo (t * q.2 + s * q.1 * b) (b * q.2)).1, (lo (t * q.2 + s * q.1 * b) (b * q.2)).2, 0, 0, 1)
  | none => if s = 0 then ((lo t b).1, (lo t b).2, 0, 0, 1) else ((lo t b).1, (lo t b).2, s, (lo o u).1, (lo o u).2)
theorem form_0 {t b : Int} (h : Int.gcd t b = 1) : form t b 0 0 1 = (t, b, 0, 0, 1) := by
  unfold form
  rw [lo_01, rt_01]
  dsimp only
  rw [show t * 1 + 0 * 0 * b = t by omega, show b * 1 = b by omega, lo_red h]
theorem form_fix {t b s o u : Int} (F : Five t b s o u) {t' b' s' o' u' : Int} (e : form t b s o u = (t', b', s', o', u')) : Five t' b' s' o' u' ∧ form t' b' s' o' u' = (t', b', s', o', u') := by
  obtain ⟨l1, l2⟩ := lo_two (a := o) F.u
  obtain ⟨m1, m2⟩ := lo_two (a := t) F.b
  obtain ⟨_, _, l3⟩ := lo_abs (a := o) F.u
  have l3 := l3 F.o
  unfold form at e
  cases hr : rt (lo o u) with
  | some q =>
    rw [hr] at e
    obtain ⟨q1, _, _, _⟩ := rt_some hr l1 l3
    obtain ⟨n1, n2⟩ := lo_two (a := t * q.2 + s * q.1 * b) (Int.mul_pos F.b q1)
    cases e
    exact ⟨⟨n1, by decide, by decide, by decide⟩, form_0 n2⟩
  | none =>
    rw [hr] at e
    dsimp only at e
    split at e
    · cases e
      exact ⟨⟨m1, by decide, by decide, by decide⟩, form_0 m2⟩
    · rename_i hs
      cases e
      refine ⟨⟨m1, l1, l3, F.s⟩, ?_⟩
      unfold form
      rw [lo_red l2, lo_red m2]
      have : rt ((lo o u).1, (lo o u).2) = none := hr
      rw [this]
      dsimp only
      rw [if_neg hs]
/-- how great the form's numbers may be -/
theorem form_le {t b s o u : Int} (F : Five t b s o u) (ht : t.natAbs ≤ 2 ^ 20) (hb : b ≤ 2 ^ 20) (ho : o ≤ 2 ^ 20) (hu : u ≤ 2 ^ 20) {t' b' s' o' u' : Int} (e : form t b s o u = (t', b', s', o', u')) : t'.natAbs ≤ 2 ^ 42 ∧ b' ≤ 2 ^ 42 ∧ o' ≤ 2 ^ 20 ∧ u' ≤ 2 ^ 20 := by
  obtain ⟨l1, l2⟩ := lo_two (a := o) F.u
  obtain ⟨a1, a2, l3⟩ := lo_abs (a := o) F.u
  have l3 := l3 F.o
  obtain ⟨c1, c2, _⟩ := lo_abs (a := t) F.b
  have fs := F.s
  have fb := F.b
  have fo := F.o
  unfold form at e
  cases hr : rt (lo o u) with
  | some q =>
    rw [hr] at e
    obtain ⟨q1, q0, q3, q4⟩ := rt_some hr l1 l3
    obtain ⟨d1, d2, _⟩ := lo_abs (a := t * q.2 + s * q.1 * b) (Int.mul_pos F.b q1)
    cases e
    have hq1 : q.1 ≤ 2 ^ 20 := by
      rcases Int.lt_or_le q.1 1 with h | h
      · omega
      · have := Int.mul_le_mul_of_nonneg_right h q0
        omega
    have hq2 : q.2 ≤ 2 ^ 20 := by
      have := Int.mul_le_mul_of_nonneg_right (show 1 ≤ q.2 by omega) (show 0 ≤ q.2 by omega)
      omega
    have p2 : b * q.2 ≤ 2 ^ 40 := by
      have h1 := Int.mul_le_mul_of_nonneg_left hq2 (show 0 ≤ b by omega)
      have h2 := Int.mul_le_mul_of_nonneg_right hb (show (0 : Int) ≤ 2 ^ 20 by decide)
      omega
    have p1 : (t * q.2).natAbs ≤ 2 ^ 40 := by
      rw [Int.natAbs_mul]
      have := Nat.mul_le_mul ht (show q.2.natAbs ≤ 2 ^ 20 by omega)
      omega
    have p3 : (s * q.1 * b).natAbs ≤ 2 ^ 40 := by
      rw [Int.natAbs_mul, Int.natAbs_mul]
      have := Nat.mul_le_mul (Nat.mul_le_mul (show s.natAbs ≤ 1 by omega) (show q.1.natAbs ≤ 2 ^ 20 by omega)) (show b.natAbs ≤ 2 ^ 20 by omega)
      omega
    have p4 := Int.natAbs_add_le (t * q.2) (s * q.1 * b)
    refine ⟨by omega, by omega, by decide, by decide⟩
  | none =>
    rw [hr] at e
    dsimp only at e
    split at e
    · cases e
      exact ⟨by omega, by omega, by decide, by decide⟩
    · cases e
      exact ⟨by omega, by omega, by omega, by omega⟩
end K00

namespace K00
open PySem L2 Pd
open scoped Classical
class Big (fu : Nat) : Prop where
  h : 3000 ≤ fu
variable {fu : Nat} [Big fu]
structure Deck (S : Store) (d c m : Nat) : Prop where
  ex : ∃ (seed n : Int) (cells : List Int), S[d]? = some (.lst [.ref c, .int seed, .int n]) ∧ S[c]? = some (.lst (cells.map .int)) ∧ cells.length ≤ 100 ∧ 0 ≤ n ∧ n ≤ m
  ne : d ≠ c
def Fr (S S' : Store) (d c : Nat) : Prop := S.length ≤ S'.length ∧ ∀ i, i < S.length → i ≠ d → i ≠ c → S'[i]? = S[i]?
theorem Fr.refl (S : Store) (d c : Nat) : Fr S S d c := ⟨Nat.le_refl _, fun _ _ _ _ => rfl⟩
theorem Fr.trans {S S1 S2 : Store} {d c : Nat} (a : Fr S S1 d c) (b : Fr S1 S2 d c) : Fr S S2 d c := ⟨Nat.le_trans a.1 b.1, fun i h1 h2 h3 => (b.2 i (Nat.lt_of_lt_of_le h1 a.1) h2 h3).trans (a.2 i h1 h2 h3)⟩
theorem Fr.set {S : Store} {d c i : Nat} {x : Cell} (h : i = d ∨ i = c) : Fr S (S.set i x) d c := by
  refine ⟨by simp, fun j hj h1 h2 => ?_⟩
  rw [List.getElem?_set_ne]
  rcases h with rfl | rfl
  · exact Ne.symm h1
  · exact Ne.symm h2
theorem Fr.snoc {S : Store} {d c : Nat} {x : Cell} : Fr S (S ++ [x]) d c := ⟨by simp, fun j hj _ _ => by rw [List.getElem?_append_left hj]⟩
theorem Fr.sweep {S S1 : Store} {d c : Nat} {v : Val} (h : Fr S S1 d c) : Fr S (swept S.length v S1) d c := ⟨swept_le h.1, fun i h1 h2 h3 => by rw [swept_at h1]; exact h.2 i h1 h2 h3⟩
theorem Deck.lt {S : Store} {d c m : Nat} (D : Deck S d c m) : d < S.length ∧ c < S.length := by
  obtain ⟨_, _, _, e1, e2, _⟩ := D.ex
  exact ⟨(List.getElem?_eq_some_iff.mp e1).1, (List.getElem?_eq_some_iff.mp e2).1⟩
theorem Deck.sweep {S S1 : Store} {d c m : Nat} {v : Val} (D : Deck S1 d c m) (hd : d < S.length) (hc : c < S.length) : Deck (swept S.length v S1) d c m := by
  obtain ⟨⟨a, b, l, e1, e2, e3⟩, ne⟩ := D
  exact ⟨⟨a, b, l, by rw [swept_at hd]; exact e1, by rw [swept_at hc]; exact e2, e3⟩, ne⟩
theorem fmod_lo (a : Int) {b : Int} (h : 0 < b) : 0 ≤ a.fmod b ∧ a.fmod b < b := ⟨Int.fmod_nonneg_of_pos a h, Int.fmod_lt_of_pos a h⟩
theorem boolsOf_map : ∀ bs : List Bool, boolsOf (bs.map .bl) = some bs
  | [] => rfl
  | b :: bs => by simp [boolsOf, boolsOf_map bs]
theorem at_pair {α : Type} {a b : α} {r : List α} : L2.atI (a :: b :: r) 1 = some b := by
  unfold L2.atI L2.ixN
  rw [if_pos (by decide), if_pos (by simp; omega)]
  rfl
theorem sims_of {l : List Val} (h : ∀ x ∈ l, sim x = true) : sims l = true := by
  induction l with
  | nil => rfl
  | cons x l ih => simp [sims, h x List.mem_cons_self, ih fun y hy => h y (List.mem_cons_of_mem _ hy)]
theorem sims_mem {l : List Val} (h : sims l = true) : ∀ x ∈ l, sim x = true := by
  induction l with
  | nil => intro x hx; cases hx
  | cons y l ih =>
    simp only [sims, Bool.and_eq_true] at h
    intro x hx
    rcases List.mem_cons.mp hx with rfl | hx
    · exact h.1
    · exact ih h.2 x hx
theorem vdeps_of {l : List Val} {n : Nat} (h : ∀ x ∈ l, vdep x ≤ n) : vdeps l ≤ n := by
  induction l with
  | nil => simp [vdeps]
  | cons x l ih =>
    have h1 := h x List.mem_cons_self
    have h2 := ih fun y hy => h y (List.mem_cons_of_mem _ hy)
    simp only [vdeps]
    omega
theorem atI_nat {α : Type} {l : List α} {i : Nat} {x : α} (h : l[i]? = some x) : L2.atI l (i : Nat) = some x := by
  have hi := (List.getElem?_eq_some_iff.mp h).1
  unfold L2.atI L2.ixN
  rw [if_pos (by omega), if_pos (by omega)]
  simpa using h
theorem ev_repr {S : Store} {Q : Val → Store → Prop} {u : Val} {d : PyData} (hd : dat S 60 u = some d) (hl : PyData.layable0 d = true) (hp : d.depth ≤ 60) (hi : d.intsShort 13 = true) (hs : d.showable = true) : Ev (biV .repr [u] S) Q = Q (.str d.shown) S := by
  show Ev (reprV u S) Q = _
  unfold reprV
  rw [hd]
  dsimp only
  have h1 := PyProof.Rows.shown_le13 hl hi
  have h2 := PyData.hasDict_of_layable hl
  rw [if_pos (by simp only [Bool.and_eq_true, decide_eq_true_eq, Bool.not_eq_true']; exact ⟨⟨⟨hs, by show _ ≤ 16777216; omega⟩, hp⟩, h2⟩)]; rfl
structure Short (v : Val) (n : Nat) : Prop where
  sm : sim v = true
  dp : vdep v ≤ 5
  wt : (toD v).weight ≤ n
  is : (toD v).intsShort 13 = true
  sh : (toD v).showable = true
theorem shorts {vs : List Val} {n : Nat} (h : ∀ v ∈ vs, Short v n) : sims vs = true ∧ vdeps vs ≤ 5 ∧ PyData.weightAll (toDs vs) ≤ vs.length * (n + 1) ∧ PyData.intsShortAll 13 (toDs vs) = true ∧ PyData.showableAll (toDs vs) = true := by
  induction vs with
  | nil => simp [sims, vdeps, toDs, PyData.weightAll, PyData.intsShortAll, PyData.showableAll]
  | cons v vs ih =>
    obtain ⟨a, b, c, d, e⟩ := ih fun x hx => h x (List.mem_cons_of_mem _ hx)
    have hv := h v List.mem_cons_self
    have h2 := hv.dp
    have h3 := hv.wt
    refine ⟨by simp [sims, hv.sm, a], by simp only [vdeps]; omega, ?_, by simp [toDs, PyData.intsShortAll, hv.is, d], by simp [toDs, PyData.showableAll, hv.sh, e]⟩
    simp only [toDs, PyData.weightAll, List.length_cons]
    rw [Nat.succ_mul]
    omega
theorem ev_reprT {S : Store} {Q : Val → Store → Prop} {vs : List Val} {n : Nat} (h : ∀ v ∈ vs, Short v n) (hz : vs.length * (n + 1) ≤ 2 ^ 20) : Ev (biV .repr [.tup vs] S) Q = Q (.str (toD (.tup vs)).shown) S := by
  obtain ⟨a, b, c, d, e⟩ := shorts h
  obtain ⟨l1, l2⟩ := lays_sim vs a
  refine ev_repr (dat_sim (.tup vs) 60 a (by show vdeps vs + 1 ≤ 60; omega)) ?_ ?_ ?_ ?_
  · show (PyData.canLay0 _ && decide (PyData.depth _ ≤ 64) && decide (PyData.weight _ ≤ 2 ^ 20)) = true
    simp only [toD, PyData.canLay0, PyData.depth, PyData.weight, l1, l2, Bool.and_eq_true, decide_eq_true_eq]
    exact ⟨⟨trivial, by omega⟩, by omega⟩
  · simp only [toD, PyData.depth, l2]; omega
  · simp only [toD, PyData.intsShort]; exact d
  · simp only [toD, PyData.showable]; exact e
theorem short_str {x : Str} {n : Nat} (h1 : PyData.strOk x = true) (h2 : x.cps.size ≤ n) : Short (.str x) n := ⟨h1, by simp [vdep], h2, rfl, rfl⟩
theorem short_tup {vs : List Val} {n m : Nat} (h : ∀ v ∈ vs, Short v n ∧ vdep v ≤ 4) (hm : vs.length * (n + 1) ≤ m) : Short (.tup vs) m := by
  obtain ⟨a, b, c, d, e⟩ := shorts fun v hv => (h v hv).1
  have hd := vdeps_of fun v hv => (h v hv).2
  exact ⟨a, by show vdeps vs + 1 ≤ 5; omega, by simp only [toD, PyData.weight]; omega, by simp only [toD, PyData.intsShort]; exact d, by simp only [toD, PyData.showable]; exact e⟩
theorem Fr.at {S S' : Store} {d c i : Nat} {x : Cell} (o : Fr S S' d c) (h : S[i]? = some x) (h1 : i ≠ d) (h2 : i ≠ c) : S'[i]? = some x := (o.2 i (List.getElem?_eq_some_iff.mp h).1 h1 h2).trans h
theorem Old.fr {S S' : Store} (o : Old S S') (d c : Nat) : Fr S S' d c := ⟨o.1, fun i h _ _ => o.2 i h⟩
theorem Deck.old {S S' : Store} {d c m : Nat} (D : Deck S d c m) (o : Old S S') : Deck S' d c m := by
  obtain ⟨⟨a, b, l, e1, e2, e3⟩, ne⟩ := D
  exact ⟨⟨a, b, l, o.at e1, o.at e2, e3⟩, ne⟩
theorem Deck.up {S : Store} {d c m m' : Nat} (D : Deck S d c m) (h : m ≤ m') : Deck S d c m' := by
  obtain ⟨⟨a, b, l, e1, e2, e3, e4, e5⟩, ne⟩ := D
  exact ⟨⟨a, b, l, e1, e2, e3, e4, by omega⟩, ne⟩
theorem at_zero {a : Val} {r : List Val} : L2.atI (a :: r) 0 = some a := by
  unfold L2.atI L2.ixN
  simp
theorem slc_tup {S : Store} {Q : Val → Store → Prop} {xs : List Val} {l h : Option Int} : Ev (slcV (.tup xs) l h S) Q = Q (.tup (cutL xs l h)) S := rfl
theorem Deck.set_new {S : Store} {d c m i : Nat} {x : Cell} (D : Deck S d c m) (h1 : i ≠ d) (h2 : i ≠ c) : Deck (S.set i x) d c m := by
  obtain ⟨⟨a, b, l, e1, e2, e3⟩, ne⟩ := D
  exact ⟨⟨a, b, l, by rw [List.getElem?_set_ne h1]; exact e1, by rw [List.getElem?_set_ne h2]; exact e2, e3⟩, ne⟩
theorem Fr.set_new {S S' : Store} {d c i : Nat} {x : Cell} (F : Fr S S' d c) (h : S.length ≤ i) : Fr S (S'.set i x) d c := ⟨by simpa using F.1, fun j hj h1 h2 => by rw [List.getElem?_set_ne (by omega)]; exact F.2 j hj h1 h2⟩
theorem cut_to {α : Type} (xs : List α) (n : Nat) : cutL xs none (some (n : Int)) = xs.take n := by
  unfold cutL
  rw [HT.sIx_none, HT.sIx_nat, List.drop_zero, Nat.sub_zero]
  by_cases h : n ≤ xs.length
  · rw [Nat.min_eq_left h]
  · rw [Nat.min_eq_right (by omega), List.take_of_length_le (by omega), List.take_of_length_le (by omega)]
theorem cut_from {α : Type} (xs : List α) (n : Nat) : cutL xs (some (n : Int)) none = xs.drop n := by
  unfold cutL
  rw [HT.sIx_none, HT.sIx_nat]
  by_cases h : n ≤ xs.length
  · rw [Nat.min_eq_left h, List.take_of_length_le (by rw [List.length_drop]; omega)]
  · rw [Nat.min_eq_right (by omega), List.drop_of_length_le (by omega), List.drop_of_length_le (by omega)]
    simp
theorem ev_range {S : Store} {Q : Src → Store → Prop} {a b : Int} (h0 : -1000000 ≤ a) (h1 : a < 1000000) (h2 : -1000000 ≤ b) (h3 : b < 1000000) : Ev (rangeV a b S) Q = Q (.stat (upTo a (b - a).toNat)) S := by
  unfold rangeV
  have h62 : ((2 : Int) ^ 62) = 4611686018427387904 := by decide
  rw [if_pos (by simp only [Bool.and_eq_true, decide_eq_true_eq, h62]; exact ⟨⟨⟨by omega, by omega⟩, by omega⟩, by omega⟩)]; rfl
theorem upTo_len {a : Int} {n : Nat} : (Pd.upTo a n).length = n := by simp [Pd.upTo]
theorem upTo_at {a : Int} {n j : Nat} {x : Val} (h : (Pd.upTo a n)[j]? = some x) : j < n ∧ x = .int (a + (j : Nat)) := by
  have hj := (List.getElem?_eq_some_iff.mp h).1
  rw [upTo_len] at hj
  unfold Pd.upTo at h
  rw [List.getElem?_map, List.getElem?_range hj] at h
  exact ⟨hj, (Option.some.inj h).symm⟩
theorem ev_slcL {S : Store} {Q : Val → Store → Prop} {i : Nat} {xs : List Val} {l h : Option Int} (e : S[i]? = some (.lst xs)) : Ev (slcV (.ref i) l h S) Q = Q (.ref S.length) (S ++ [.lst (cutL xs l h)]) := by
  show Ev (cutLst i l h S) Q = _
  unfold cutLst
  rw [e]; rfl
theorem ev_listS {S : Store} {Q : Val → Store → Prop} {u : Val} {l : List Val} (h : seqOf S u = some l) : Ev (biV .list [u] S) Q = Q (.ref S.length) (S ++ [.lst l]) := by
  show Ev (lstF u S) Q = _
  unfold lstF
  rw [h]; rfl
theorem cut_mem {α : Type} {xs : List α} {l h : Option Int} {x : α} (hx : x ∈ cutL xs l h) : x ∈ xs := List.mem_of_mem_drop (List.mem_of_mem_take hx)
theorem cut_len {α : Type} {xs : List α} {l h : Option Int} : (cutL xs l h).length ≤ xs.length := by
  unfold cutL
  rw [List.length_take, List.length_drop]
  omega
theorem bt {P : Prop} [Decidable P] (h : P) : Val.bl true = .bl (decide P) := by rw [decide_eq_true h]
theorem bf {P : Prop} [Decidable P] (h : ¬ P) : Val.bl false = .bl (decide P) := by rw [decide_eq_false h]
theorem bi {P : Prop} [Decidable P] {b : Bool} (h : b = true ↔ P) : Val.bl b = .bl (decide P) := by
  by_cases c : P
  · rw [decide_eq_true c, h.mpr c]
  · rw [decide_eq_false c]
    cases b
    · rfl
    · exact absurd (h.mp rfl) c
theorem bd {P Q : Prop} [Decidable P] [Decidable Q] (h : P ↔ Q) : Val.bl (decide P) = .bl (decide Q) := bi (by rw [decide_eq_true_eq]; exact h)
section
variable {S : Store} {Q : List Val → Store → Prop} {xs : List Val} {put : Store → Val → Option Pd.Env} {keep : Pd.Env → M Bool} {elt : Pd.Env → M Val}
theorem lc_stat (g : Val → Val) (hz : xs.length ≤ 16777216) (hp : ∀ x S', x ∈ xs → Old S S' → ∃ e, put S' x = some e ∧ Ev (keep e S') (fun b S1 => b = true ∧ S1 = S') ∧ Ev (elt e S') fun v S1 => v = g x ∧ Old S' S1) (hQ : ∀ S', Old S S' → Q (xs.map g) S') :
    Ev (noExc (fun S1 => compLoop (.stat xs) put keep elt ((Src.stat xs).len S1) 0 [] S1) S) Q := by
  refine ev_lc (xs := xs) (fun _ x => x) (fun k acc S' => Old S S' ∧ acc = (xs.take k).map g) rfl (fun k acc S' hJ => by show some xs[k]? = some (Option.map (fun x => x) _); rw [Option.map_id']) (fun k x acc S' hx ha hJ => ?_) hz ⟨Old.refl S, rfl⟩ (fun l S2 hJ _ => ?_)
  · obtain ⟨o, rfl⟩ := hJ
    obtain ⟨e, h1, h2, h3⟩ := hp x S' (List.mem_of_getElem? hx) o
    refine ⟨e, h1, h2.imp fun b S1 hb => ?_⟩
    obtain ⟨rfl, rfl⟩ := hb
    rw [if_pos rfl]
    refine h3.imp fun v S2 hv => ?_
    obtain ⟨rfl, o2⟩ := hv
    refine ⟨o.trans o2, ?_⟩
    rw [List.take_succ, hx, List.map_append]
    rfl
  · obtain ⟨o, rfl⟩ := hJ
    rw [List.take_length]
    exact hQ S2 o
theorem lc_dyn {i : Nat} (hi : S[i]? = some (.lst xs)) (g : Val → Val) (hz : xs.length ≤ 16777216) (hp : ∀ x S', x ∈ xs → Old S S' → ∃ e, put S' x = some e ∧ Ev (keep e S') (fun b S1 => b = true ∧ S1 = S') ∧ Ev (elt e S') fun v S1 => v = g x ∧ Old S' S1) (hQ : ∀ S', Old S S' → Q (xs.map g) S') :
    Ev (noExc (fun S1 => compLoop (.dyn i) put keep elt ((Src.dyn i).len S1) 0 [] S1) S) Q := by
  refine ev_lc (xs := xs) (fun _ x => x) (fun k acc S' => Old S S' ∧ acc = (xs.take k).map g) (len_dyn hi) (fun k acc S' hJ => at_dyn (hJ.1.at hi)) (fun k x acc S' hx ha hJ => ?_) hz ⟨Old.refl S, rfl⟩ (fun l S2 hJ _ => ?_)
  · obtain ⟨o, rfl⟩ := hJ
    obtain ⟨e, h1, h2, h3⟩ := hp x S' (List.mem_of_getElem? hx) o
    refine ⟨e, h1, h2.imp fun b S1 hb => ?_⟩
    obtain ⟨rfl, rfl⟩ := hb
    rw [if_pos rfl]
    refine h3.imp fun v S2 hv => ?_
    obtain ⟨rfl, o2⟩ := hv
    refine ⟨o.trans o2, ?_⟩
    rw [List.take_succ, hx, List.map_append]
    rfl
  · obtain ⟨o, rfl⟩ := hJ
    rw [List.take_length]
    exact hQ S2 o
end
theorem ev_all {S : Store} {Q : Val → Store → Prop} {i : Nat} {bs : List Bool} (h : S[i]? = some (.lst (bs.map .bl))) : Ev (biV .all [.ref i] S) Q = Q (.bl (bs.all id)) S := by
  show Ev (allF (.ref i) S) Q = _
  unfold allF
  rw [lstOf_at h]
  dsimp only
  rw [boolsOf_map]; rfl
def EvX {α : Type} (r : Res α) (Q : α → Store → Prop) (X : Exn → Store → Prop) : Prop := match r with
  | .ok a S => Q a S
  | .exc x S => X x S
  | .bad => False
def OutX (r : RS) (I : Pd.Env → Store → Prop) (R : Val → Store → Prop) (X : Exn → Pd.Env → Store → Prop) : Prop := match r with
  | .nx e S => I e S
  | .rt v S => R v S
  | .exc x e S => X x e S
  | _ => False
section
variable {α β : Type} {I : Pd.Env → Store → Prop} {R : Val → Store → Prop} {X : Exn → Pd.Env → Store → Prop} {S : Store} {env : Pd.Env}
theorem EvX.imp {r : Res α} {Q Q' : α → Store → Prop} {Y Y' : Exn → Store → Prop} (h : EvX r Q Y) (f : ∀ a S, Q a S → Q' a S) (g : ∀ x S, Y x S → Y' x S) : EvX r Q' Y' := by
  cases r <;> first | exact f _ _ h | exact g _ _ h | exact h.elim
theorem outx_then {r : Res α} {f : α → Store → RS} (h : Ev r fun a S => OutX (f a S) I R X) : OutX (r.then env f) I R X := by
  cases r <;> first | exact h | exact h.elim
theorem outx_thenX {r : Res α} {f : α → Store → RS} (h : EvX r (fun a S => OutX (f a S) I R X) fun x S => X x env S) : OutX (r.then env f) I R X := by
  cases r <;> first | exact h | exact h.elim
theorem outx_seq {r : RS} {f : Pd.Env → Store → RS} : OutX (r.seq f) I R X = OutX r (fun e S => OutX (f e S) I R X) R X := by
  cases r <;> rfl
theorem outx_nx : OutX (.nx env S) I R X = I env S := rfl
theorem outx_rt {v : Val} : OutX (.rt v S) I R X = R v S := rfl
theorem outx_exc {x : Exn} : OutX (.exc x env S) I R X = X x env S := rfl
theorem outx_ite {b : Bool} {r r' : RS} : OutX (if b = true then r else r') I R X = if b = true then OutX r I R X else OutX r' I R X := by
  cases b <;> rfl
theorem evx_ok {r : Res α} {Q : α → Store → Prop} {Y : Exn → Store → Prop} (h : Ev r Q) : EvX r Q Y := by
  cases r <;> first | exact h | exact h.elim
theorem evx_bind {m : M α} {f : α → M β} {Q : β → Store → Prop} {Y : Exn → Store → Prop} : EvX ((m >>= f) S) Q Y = EvX (m S) (fun a S' => EvX (f a S') Q Y) Y := by
  rw [bind_app]
  cases m S <;> rfl
theorem evx_pure {a : α} {Q : α → Store → Prop} {Y : Exn → Store → Prop} : EvX ((pure a : M α) S) Q Y = Q a S := rfl
theorem evx_ofOpt {o : Option α} {Q : α → Store → Prop} {Y : Exn → Store → Prop} : EvX (ofOpt o S) Q Y = ∃ a, o = some a ∧ Q a S := by
  unfold ofOpt
  cases o <;> simp [EvX]
theorem evx_call {T : Tab} {fuel k f : Nat} {args : List Val} {Q : Val → Store → Prop} {Y : Exn → Store → Prop} {d : FnD} (hd : T.fns[f]? = some d) (hn : args.length = d.np)
    (h : OutX (evSs (T.C fuel k) fuel d.body (args.map some ++ List.replicate (d.N.length - d.np) none) S) (fun _ S' => Q .non (swept S.length .non S')) (fun v S' => Q v (swept S.length v S')) (fun x _ S' => Y x S')) : EvX (callF T fuel (k + 1) f args S) Q Y := by
  unfold callF
  rw [hd]
  dsimp only
  rw [if_pos hn]
  revert h
  generalize evSs (T.C fuel k) fuel d.body (args.map some ++ List.replicate (d.N.length - d.np) none) S = r
  intro h
  cases r <;> first | exact h | exact h.elim
theorem OutX.imp {r : RS} {I' : Pd.Env → Store → Prop} (h : OutX r I R X) (f : ∀ e S, I e S → I' e S) : OutX r I' R X := by
  cases r <;> first | exact f _ _ h | exact h
end
theorem out_try {C : EvC} {n c o : Nat} {body : ISs} {suite : XSs} {env : Pd.Env} {S : Store} {I : Pd.Env → Store → Prop} {R : Val → Store → Prop}
    (h : OutX (evSs C n body env S) I R (fun x env1 S1 => ownX C.xs x.cls = true ∧ o < env1.length ∧ subX C.xs x.cls c = true ∧ Out (tidy o (evXSs C.xs x suite (envDel env1 o) S1)) I R)) : Out (evS C n (.tryx body c o suite) env S) I R := by
  unfold evS
  revert h
  generalize evSs C n body env S = r
  intro h
  cases r with
  | exc x env1 S1 =>
    obtain ⟨h1, h2, h3, h4⟩ := h
    show Out (if (ownX C.xs x.cls && decide (o < env1.length)) = true then _ else _) I R
    rw [if_pos (by rw [h1, decide_eq_true h2]; rfl), if_pos h3]
    exact h4
  | nx e S => exact h
  | rt v S => exact h
  | bk e S => exact h.elim
  | ct e S => exact h.elim
  | bad => exact h.elim
theorem out_set {C : EvC} {n i : Nat} {e : IE} {env : Pd.Env} {S : Store} {I : Pd.Env → Store → Prop} {R : Val → Store → Prop} : Out (evS C n (.set i e) env S) I R = Ev (evE C e env S) fun v S' => I (envSet env i v) S' := by
  unfold evS
  rw [out_then]
  rfl
end K00


namespace K00
open PySem L2 Pd
open scoped Classical
variable {fu : Nat} [Big fu]
/-! ### the programs' numbers -/
theorem out_whl {test : Pd.Env → M Bool} {body : Pd.Env → Store → RS} {I : Pd.Env → Store → Prop} {R : Val → Store → Prop} (J : Nat → Pd.Env → Store → Prop)
    (h : ∀ m env S, J m env S → Ev (test env S) fun b S1 => if b = true then ∃ m', m = m' + 1 ∧ Out (body env S1) (fun e S2 => J m' e S2) R else I env S1) :
    ∀ (n m : Nat) (env : Pd.Env) (S : Store), J m env S → m ≤ n → Out (whlLoop test body n env S) I R := by
  intro n
  induction n with
  | zero =>
    intro m env S hJ hm
    unfold whlLoop
    rw [out_then]
    refine (h m env S hJ).imp fun b S1 q => ?_
    cases b with
    | true =>
      rw [if_pos rfl] at q
      obtain ⟨m', e, _⟩ := q
      omega
    | false =>
      rw [if_neg (by simp)] at q
      exact q
  | succ n ih =>
    intro m env S hJ hm
    unfold whlLoop
    rw [out_then]
    refine (h m env S hJ).imp fun b S1 q => ?_
    cases b with
    | true =>
      rw [if_pos rfl] at q
      obtain ⟨m', e, q⟩ := q
      show Out (match body env S1 with | .nx env2 S2 => whlLoop test body n env2 S2 | .ct env2 S2 => whlLoop test body n env2 S2 | .bk env2 S2 => .nx env2 S2 | r => r) I R
      revert q
      generalize body env S1 = r
      intro q
      cases r with
      | nx e2 S2 => exact ih m' e2 S2 q (by omega)
      | ct e2 S2 => exact False.elim q
      | bk e2 S2 => exact False.elim q
      | rt v S2 => exact q
      | exc x e2 S2 => exact False.elim q
      | bad => exact False.elim q
    | false =>
      rw [if_neg (by simp)] at q
      exact q
theorem ev_abs {S : Store} {Q : Val → Store → Prop} {i : Int} : Ev (biV .abs [.int i] S) Q = Q (.int (i.natAbs : Nat)) S := by
  show Q (.int (if i < 0 then -i else i)) S = _
  congr 2
  split <;> omega
theorem nat_fmod (x y : Nat) : Int.fmod (x : Int) (y : Int) = ((x % y : Nat) : Int) := by
  rw [Int.fmod_eq_emod_of_nonneg _ (by omega)]
  rfl
theorem nat_fdiv (x y : Nat) : Int.fdiv (x : Int) (y : Int) = ((x / y : Nat) : Int) := by
  rw [Int.fdiv_eq_ediv_of_nonneg _ (by omega)]
  rfl
theorem big_nat {n : Nat} (h : n < 2 ^ 900) : divFits ((n : Nat) : Int) = true ∨ n = 0 := by
  by_cases h0 : n = 0
  · exact .inr h0
  · refine .inl (div_fits (by omega) ?_)
    have : ((n : Int)).natAbs = n := by omega
    rw [this]
    exact Nat.lt_of_lt_of_le h (Nat.pow_le_pow_right (by decide) (by decide))
theorem gcd_le {a b : Int} (h : 0 < b) : Int.gcd a b ≤ b.natAbs := Nat.le_of_dvd (by omega) (Nat.gcd_dvd_right _ _)
theorem lowest_ok {k : Nat} {S : Store} {a b : Int} (hb : 0 < b) (hz : b.natAbs < 2 ^ 900) : Ev (callF T fu (k + 1) 1 [.int a, .int b] S) fun v S' => v = .tup [.int (lo a b).1, .int (lo a b).2] ∧ Old S S' := by
  have hg := gcd_pos (a := a) hb
  have hgl := gcd_le (a := a) hb
  (refine ev_call (d := f1) rfl rfl ?_; simp only [f1, evTs, evT, seqOf, evSs, evS, evE, evEs, evO, evK, evI, evD, out_then, out_nx, out_rt, ev_bind, ev_pure, ev_ofOpt, ev_noExc, ev_alloc, ev_need, ev_ite', List.map, List.replicate, List.length, List.cons_append, List.nil_append, envGet, envSet, envDels, envDel, Option.some.injEq, exists_eq_left', Lit.val])
  rw [out_seq]
  (simp only [evTs, evT, seqOf, evSs, evS, evE, evEs, evO, evK, evI, evD, out_then, out_nx, out_rt, ev_bind, ev_pure, ev_ofOpt, ev_noExc, ev_alloc, ev_need, ev_ite', List.map, List.replicate, List.length, List.cons_append, List.nil_append, envGet, envSet, envDels, envDel, Option.some.injEq, exists_eq_left', Lit.val])
  rw [ev_abs, ev_abs, out_seq]
  refine out_whl (fun m env S' => ∃ x y : Nat, env = [some (.int a), some (.int b), none, some (.int x), some (.int y)] ∧ S' = S ∧ est x y = m ∧ Nat.gcd x y = Int.gcd a b) (fun m env S' hJ => ?_) _ _ _ _ ⟨a.natAbs, b.natAbs, rfl, rfl, rfl, rfl⟩ (Nat.le_trans (est_le 900 _ _ hz) (Nat.le_trans (by decide) (Big.h (fu := fu))))
  obtain ⟨x, y, rfl, rfl, hm, hgc⟩ := hJ
  (simp only [evTs, evT, seqOf, evSs, evS, evE, evEs, evO, evK, evI, evD, out_then, out_nx, out_rt, ev_bind, ev_pure, ev_ofOpt, ev_noExc, ev_alloc, ev_need, ev_ite', List.map, List.replicate, List.length, List.cons_append, List.nil_append, envGet, envSet, envDels, envDel, Option.some.injEq, exists_eq_left', Lit.val])
  rw [ev_neI, ev_tb]
  by_cases h0 : y = 0
  · subst h0
    rw [decide_eq_true (by rfl), if_neg (by simp)]
    have hx : x = Int.gcd a b := by rw [← hgc]; exact (Nat.gcd_zero_right x).symm
    subst hx
    rw [out_seq]
    (simp only [evTs, evT, seqOf, evSs, evS, evE, evEs, evO, evK, evI, evD, out_then, out_nx, out_rt, ev_bind, ev_pure, ev_ofOpt, ev_noExc, ev_alloc, ev_need, ev_ite', List.map, List.replicate, List.length, List.cons_append, List.nil_append, envGet, envSet, envDels, envDel, Option.some.injEq, exists_eq_left', Lit.val])
    rw [ev_gt, decide_eq_true hb, ev_tb, if_pos rfl, out_seq]
    (simp only [evTs, evT, seqOf, evSs, evS, evE, evEs, evO, evK, evI, evD, out_then, out_nx, out_rt, ev_bind, ev_pure, ev_ofOpt, ev_noExc, ev_alloc, ev_need, ev_ite', List.map, List.replicate, List.length, List.cons_append, List.nil_append, envGet, envSet, envDels, envDel, Option.some.injEq, exists_eq_left', Lit.val])
    have hd : divFits ((Int.gcd a b : Nat) : Int) = true := by
      rcases big_nat (n := Int.gcd a b) (by omega) with h | h
      · exact h
      · omega
    rw [ev_fdiv hd, ev_fdiv hd]
    refine ⟨rfl, rfl, (Old.refl _).sweep⟩
  · rw [decide_eq_false (by omega), if_pos (by rfl)]
    rw [est_pos h0] at hm
    refine ⟨est y (x % y), by omega, ?_⟩
    rw [out_seq]
    (simp only [evTs, evT, seqOf, evSs, evS, evE, evEs, evO, evK, evI, evD, out_then, out_nx, out_rt, ev_bind, ev_pure, ev_ofOpt, ev_noExc, ev_alloc, ev_need, ev_ite', List.map, List.replicate, List.length, List.cons_append, List.nil_append, envGet, envSet, envDels, envDel, Option.some.injEq, exists_eq_left', Lit.val])
    rw [ev_mod (by omega), nat_fmod]
    refine ⟨y, x % y, rfl, rfl, rfl, ?_⟩
    rw [← hgc, Nat.gcd_comm x y]
    rw [Nat.gcd_rec y x, Nat.gcd_comm]
theorem lowest2_ok {k : Nat} {S : Store} {a b : Int} (hb : 0 < b) (hz : b.natAbs < 2 ^ 900) : Ev (callF T fu (k + 1) 8 [.int a, .int b] S) fun v S' => v = .tup [.int (lo a b).1, .int (lo a b).2] ∧ Old S S' := by
  have hg := gcd_pos (a := a) hb
  have hgl := gcd_le (a := a) hb
  (refine ev_call (d := f8) rfl rfl ?_; simp only [f8, evTs, evT, seqOf, evSs, evS, evE, evEs, evO, evK, evI, evD, out_then, out_nx, out_rt, ev_bind, ev_pure, ev_ofOpt, ev_noExc, ev_alloc, ev_need, ev_ite', List.map, List.replicate, List.length, List.cons_append, List.nil_append, envGet, envSet, envDels, envDel, Option.some.injEq, exists_eq_left', Lit.val])
  rw [out_seq]
  (simp only [evTs, evT, seqOf, evSs, evS, evE, evEs, evO, evK, evI, evD, out_then, out_nx, out_rt, ev_bind, ev_pure, ev_ofOpt, ev_noExc, ev_alloc, ev_need, ev_ite', List.map, List.replicate, List.length, List.cons_append, List.nil_append, envGet, envSet, envDels, envDel, Option.some.injEq, exists_eq_left', Lit.val])
  rw [ev_abs, ev_abs, out_seq]
  refine out_whl (fun m env S' => ∃ x y : Nat, env = [some (.int a), some (.int b), some (.int x), some (.int y)] ∧ S' = S ∧ est x y = m ∧ Nat.gcd x y = Int.gcd a b) (fun m env S' hJ => ?_) _ _ _ _ ⟨a.natAbs, b.natAbs, rfl, rfl, rfl, rfl⟩ (Nat.le_trans (est_le 900 _ _ hz) (Nat.le_trans (by decide) (Big.h (fu := fu))))
  obtain ⟨x, y, rfl, rfl, hm, hgc⟩ := hJ
  (simp only [evTs, evT, seqOf, evSs, evS, evE, evEs, evO, evK, evI, evD, out_then, out_nx, out_rt, ev_bind, ev_pure, ev_ofOpt, ev_noExc, ev_alloc, ev_need, ev_ite', List.map, List.replicate, List.length, List.cons_append, List.nil_append, envGet, envSet, envDels, envDel, Option.some.injEq, exists_eq_left', Lit.val])
  rw [ev_gt, ev_tb]
  by_cases h0 : y = 0
  · subst h0
    rw [decide_eq_false (by decide), if_neg (by simp)]
    have hx : x = Int.gcd a b := by rw [← hgc]; exact (Nat.gcd_zero_right x).symm
    subst hx
    rw [out_seq]
    (simp only [evTs, evT, seqOf, evSs, evS, evE, evEs, evO, evK, evI, evD, out_then, out_nx, out_rt, ev_bind, ev_pure, ev_ofOpt, ev_noExc, ev_alloc, ev_need, ev_ite', List.map, List.replicate, List.length, List.cons_append, List.nil_append, envGet, envSet, envDels, envDel, Option.some.injEq, exists_eq_left', Lit.val])
    rw [ev_sub]
    refine ⟨rfl, ?_⟩
    rw [ev_lt, decide_eq_false (by omega), show Ev (biV .int [.bl false] _) = Ev ((pure (.int 0) : M Val) _) from rfl, ev_pure, ev_idxL snoc_new (show L2.atI _ 0 = some _ from at_zero), out_seq]
    (simp only [evTs, evT, seqOf, evSs, evS, evE, evEs, evO, evK, evI, evD, out_then, out_nx, out_rt, ev_bind, ev_pure, ev_ofOpt, ev_noExc, ev_alloc, ev_need, ev_ite', List.map, List.replicate, List.length, List.cons_append, List.nil_append, envGet, envSet, envDels, envDel, Option.some.injEq, exists_eq_left', Lit.val])
    have hd : divFits ((Int.gcd a b : Nat) : Int) = true := by
      rcases big_nat (n := Int.gcd a b) (by omega) with h | h
      · exact h
      · omega
    rw [ev_fdiv hd, ev_fdiv hd]
    refine ⟨rfl, rfl, Old.snoc.sweep⟩
  · rw [decide_eq_true (by omega), if_pos (by rfl)]
    rw [est_pos h0] at hm
    refine ⟨est y (x % y), by omega, ?_⟩
    rw [out_seq]
    (simp only [evTs, evT, seqOf, evSs, evS, evE, evEs, evO, evK, evI, evD, out_then, out_nx, out_rt, ev_bind, ev_pure, ev_ofOpt, ev_noExc, ev_alloc, ev_need, ev_ite', List.map, List.replicate, List.length, List.cons_append, List.nil_append, envGet, envSet, envDels, envDel, Option.some.injEq, exists_eq_left', Lit.val])
    rw [ev_mod (by omega), nat_fmod]
    refine ⟨y, x % y, rfl, rfl, rfl, ?_⟩
    rw [← hgc, Nat.gcd_comm x y]
    rw [Nat.gcd_rec y x, Nat.gcd_comm]
theorem ev_shl {S : Store} {Q : Val → Store → Prop} {i j : Int} (h : powFits i j = true) : Ev (binV .shl (.int i) (.int j) S) Q = Q (.int (i * 2 ^ j.toNat)) S := by
  show Ev ((if powFits i j then pure (.int (i * 2 ^ j.toNat)) else stuck : M Val) S) Q = _
  rw [if_pos h]
  rfl
theorem nstep {n x : Nat} : Int.fdiv ((x : Int) + Int.fdiv (n : Int) (x : Int)) 2 = (((x + n / x) / 2 : Nat) : Int) := by
  rw [nat_fdiv]
  exact nat_fdiv (x + n / x) 2
theorem isq_pos {n : Nat} (h : 0 < n) : 0 < isq n := by
  have := (isq_ok n).2
  rcases Nat.eq_zero_or_pos (isq n) with h0 | h0
  · rw [h0] at this
    omega
  · exact h0
theorem div_nat {x : Nat} (h0 : 0 < x) (h : x ≤ 2 ^ 100) : divFits (x : Int) = true := by
  rcases big_nat (n := x) (Nat.lt_of_le_of_lt h (by decide)) with h | h
  · exact h
  · omega
theorem whole_root_ok {k : Nat} {S : Store} {n : Nat} (hn : n ≤ 2 ^ 20) : Ev (callF T fu (k + 1) 2 [.int n] S) fun v S' => v = .int (isq n : Nat) ∧ Old S S' := by
  (refine ev_call (d := f2) rfl rfl ?_; simp only [f2, evTs, evT, seqOf, evSs, evS, evE, evEs, evO, evK, evI, evD, out_then, out_nx, out_rt, ev_bind, ev_pure, ev_ofOpt, ev_noExc, ev_alloc, ev_need, ev_ite', List.map, List.replicate, List.length, List.cons_append, List.nil_append, envGet, envSet, envDels, envDel, Option.some.injEq, exists_eq_left', Lit.val])
  rw [out_seq]
  (simp only [evTs, evT, seqOf, evSs, evS, evE, evEs, evO, evK, evI, evD, out_then, out_nx, out_rt, ev_bind, ev_pure, ev_ofOpt, ev_noExc, ev_alloc, ev_need, ev_ite', List.map, List.replicate, List.length, List.cons_append, List.nil_append, envGet, envSet, envDels, envDel, Option.some.injEq, exists_eq_left', Lit.val])
  rw [ev_lt, ev_tb]
  by_cases h2 : (n : Int) < 2
  · rw [decide_eq_true h2, if_pos (by rfl), out_seq]
    (simp only [evTs, evT, seqOf, evSs, evS, evE, evEs, evO, evK, evI, evD, out_then, out_nx, out_rt, ev_bind, ev_pure, ev_ofOpt, ev_noExc, ev_alloc, ev_need, ev_ite', List.map, List.replicate, List.length, List.cons_append, List.nil_append, envGet, envSet, envDels, envDel, Option.some.injEq, exists_eq_left', Lit.val])
    refine ⟨?_, (Old.refl S).sweep⟩
    have : n = 0 ∨ n = 1 := by omega
    rcases this with rfl | rfl <;> rfl
  · rw [decide_eq_false h2, if_neg (by simp)]
    (simp only [evTs, evT, seqOf, evSs, evS, evE, evEs, evO, evK, evI, evD, out_then, out_nx, out_rt, ev_bind, ev_pure, ev_ofOpt, ev_noExc, ev_alloc, ev_need, ev_ite', List.map, List.replicate, List.length, List.cons_append, List.nil_append, envGet, envSet, envDels, envDel, Option.some.injEq, exists_eq_left', Lit.val])
    rw [out_seq]
    (simp only [evTs, evT, seqOf, evSs, evS, evE, evEs, evO, evK, evI, evD, out_then, out_nx, out_rt, ev_bind, ev_pure, ev_ofOpt, ev_noExc, ev_alloc, ev_need, ev_ite', List.map, List.replicate, List.length, List.cons_append, List.nil_append, envGet, envSet, envDels, envDel, Option.some.injEq, exists_eq_left', Lit.val])
    have hn0 : n ≠ 0 := by omega
    have hl : n < 2 ^ (n.log2 + 1) := Nat.lt_log2_self
    have hl2 : n.log2 ≤ 20 := by
      have := (Nat.log2_lt hn0 (k := 21)).mpr (by omega)
      omega
    rw [ev_recv (by rfl), show Ev (bmV .bitlen (.int (n : Int)) [] S) = Ev ((pure (.int ((n.log2 + 1 : Nat) : Int)) : M Val) S) by
      have : Builtin.Int.intBits (n : Int) = n.log2 + 1 := by
        unfold Builtin.Int.intBits
        rw [if_neg (by simpa using hn0)]
        rfl
      rw [← this]
      rfl, ev_pure, ev_add, ev_fdiv (by decide), show Int.fdiv (((n.log2 + 1 : Nat) : Int) + 1) 2 = (((n.log2 + 2) / 2 : Nat) : Int) from nat_fdiv (n.log2 + 2) 2]
    have he : (n.log2 + 2) / 2 ≤ 11 := by omega
    have he2 : n.log2 + 1 ≤ 2 * ((n.log2 + 2) / 2) := by omega
    generalize (n.log2 + 2) / 2 = e at he he2
    rw [ev_shl (by unfold powFits; simp only [Bool.and_eq_true, decide_eq_true_eq]; omega)]
    have hx0 : (1 : Int) * 2 ^ ((e : Int)).toNat = ((2 ^ e : Nat) : Int) := by simp
    rw [hx0]
    have hx1 : 2 ^ e ≤ 2 ^ 11 := Nat.pow_le_pow_right (by decide) he
    have hx2 : 0 < 2 ^ e := Nat.pow_pos (by decide)
    have hx3 : isq n ≤ 2 ^ e := by
      refine isq_mono (Nat.lt_of_lt_of_le hl (Nat.le_trans (Nat.pow_le_pow_right (by decide) he2) ?_))
      rw [Nat.two_mul, Nat.pow_add]
      exact Nat.mul_le_mul (by omega) (by omega)
    generalize 2 ^ e = x0 at hx1 hx2 hx3
    have hp := isq_pos (n := n) (by omega)
    rw [out_seq]
    (simp only [evTs, evT, seqOf, evSs, evS, evE, evEs, evO, evK, evI, evD, out_then, out_nx, out_rt, ev_bind, ev_pure, ev_ofOpt, ev_noExc, ev_alloc, ev_need, ev_ite', List.map, List.replicate, List.length, List.cons_append, List.nil_append, envGet, envSet, envDels, envDel, Option.some.injEq, exists_eq_left', Lit.val])
    rw [ev_fdiv (div_nat hx2 (by omega)), ev_add, ev_fdiv (by decide), nstep, out_seq]
    refine out_whl (fun m env S' => ∃ x : Nat, env = [some (.int n), some (.int x), some (.int ((x + n / x) / 2 : Nat))] ∧ S' = S ∧ isq n ≤ x ∧ x ≤ isq n + m ∧ x ≤ 2 ^ 11) (fun m env S' hJ => ?_) _ _ _ _ ⟨x0, rfl, rfl, hx3, (show x0 ≤ isq n + 2048 by omega), hx1⟩ (Nat.le_trans (by decide) (Big.h (fu := fu)))
    obtain ⟨x, rfl, rfl, j1, j2, j3⟩ := hJ
    have hx : 0 < x := by omega
    (simp only [evTs, evT, seqOf, evSs, evS, evE, evEs, evO, evK, evI, evD, out_then, out_nx, out_rt, ev_bind, ev_pure, ev_ofOpt, ev_noExc, ev_alloc, ev_need, ev_ite', List.map, List.replicate, List.length, List.cons_append, List.nil_append, envGet, envSet, envDels, envDel, Option.some.injEq, exists_eq_left', Lit.val])
    rw [ev_lt, ev_tb]
    have hge := newton_ge (n := n) hx
    by_cases hlt : (x + n / x) / 2 < x
    · rw [decide_eq_true (by omega), if_pos (by rfl)]
      refine ⟨m - 1, by omega, ?_⟩
      rw [out_seq]
      (simp only [evTs, evT, seqOf, evSs, evS, evE, evEs, evO, evK, evI, evD, out_then, out_nx, out_rt, ev_bind, ev_pure, ev_ofOpt, ev_noExc, ev_alloc, ev_need, ev_ite', List.map, List.replicate, List.length, List.cons_append, List.nil_append, envGet, envSet, envDels, envDel, Option.some.injEq, exists_eq_left', Lit.val])
      rw [out_seq]
      (simp only [evTs, evT, seqOf, evSs, evS, evE, evEs, evO, evK, evI, evD, out_then, out_nx, out_rt, ev_bind, ev_pure, ev_ofOpt, ev_noExc, ev_alloc, ev_need, ev_ite', List.map, List.replicate, List.length, List.cons_append, List.nil_append, envGet, envSet, envDels, envDel, Option.some.injEq, exists_eq_left', Lit.val])
      generalize (x + n / x) / 2 = y at hge hlt
      rw [ev_fdiv (div_nat (show 0 < y by omega) (by omega)), ev_add, ev_fdiv (by decide), nstep]
      exact ⟨y, rfl, rfl, hge, by omega, by omega⟩
    · rw [decide_eq_false (by omega), if_neg (by simp)]
      have : x = isq n := by
        rcases Nat.lt_or_ge (isq n) x with h | h
        · exact absurd (newton_lt h) hlt
        · omega
      subst this
      rw [out_seq]
      (simp only [evTs, evT, seqOf, evSs, evS, evE, evEs, evO, evK, evI, evD, out_then, out_nx, out_rt, ev_bind, ev_pure, ev_ofOpt, ev_noExc, ev_alloc, ev_need, ev_ite', List.map, List.replicate, List.length, List.cons_append, List.nil_append, envGet, envSet, envDels, envDel, Option.some.injEq, exists_eq_left', Lit.val])
      exact ⟨by first | rfl | trivial, (Old.refl _).sweep⟩
theorem sqr_ok {k : Nat} {S : Store} {n : Nat} (hn : n ≤ 2 ^ 20) : Ev (callF T fu (k + 1) 9 [.int n] S) fun v S' => v = .int (isq n : Nat) ∧ Old S S' := by
  (refine ev_call (d := f9) rfl rfl ?_; simp only [f9, evTs, evT, seqOf, evSs, evS, evE, evEs, evO, evK, evI, evD, out_then, out_nx, out_rt, ev_bind, ev_pure, ev_ofOpt, ev_noExc, ev_alloc, ev_need, ev_ite', List.map, List.replicate, List.length, List.cons_append, List.nil_append, envGet, envSet, envDels, envDel, Option.some.injEq, exists_eq_left', Lit.val])
  rw [out_seq]
  (simp only [evTs, evT, seqOf, evSs, evS, evE, evEs, evO, evK, evI, evD, out_then, out_nx, out_rt, ev_bind, ev_pure, ev_ofOpt, ev_noExc, ev_alloc, ev_need, ev_ite', List.map, List.replicate, List.length, List.cons_append, List.nil_append, envGet, envSet, envDels, envDel, Option.some.injEq, exists_eq_left', Lit.val])
  refine ⟨rfl, ?_⟩
  rw [out_seq]
  refine out_whl (fun m env S' => ∃ j b : Nat, env = [some (.int n), some (.int b), some (.int 0)] ∧ S' = S ∧ b = 2 ^ j ∧ j + m = 21) (fun m env S' hJ => ?_) _ 21 _ _ ⟨0, 1, rfl, rfl, rfl, rfl⟩ (Nat.le_trans (by decide) (Big.h (fu := fu)))
  obtain ⟨j, b, he, hS, hb, hm⟩ := hJ
  obtain rfl : S = S' := hS.symm
  subst he
  have hj : 2 ^ j ≤ 2 ^ 21 := Nat.pow_le_pow_right (by decide) (by omega)
  rw [← hb] at hj
  (simp only [evTs, evT, seqOf, evSs, evS, evE, evEs, evO, evK, evI, evD, out_then, out_nx, out_rt, ev_bind, ev_pure, ev_ofOpt, ev_noExc, ev_alloc, ev_need, ev_ite', List.map, List.replicate, List.length, List.cons_append, List.nil_append, envGet, envSet, envDels, envDel, Option.some.injEq, exists_eq_left', Lit.val])
  rw [ev_mul (small_fits (.inl (by omega))), ev_le, ev_tb]
  by_cases hle : b * b ≤ n
  · rw [decide_eq_true (by rw [← Int.natCast_mul]; omega), if_pos (by rfl)]
    have : j < 11 := by
      rcases Nat.lt_or_ge j 11 with h | h
      · exact h
      · have h1 := Nat.pow_le_pow_right (show 0 < 2 by decide) h
        have h2 : 2048 ≤ b := by rw [hb]; exact h1
        have h3 := Nat.mul_le_mul h2 h2
        omega
    refine ⟨m - 1, by omega, ?_⟩
    rw [out_seq]
    (simp only [evTs, evT, seqOf, evSs, evS, evE, evEs, evO, evK, evI, evD, out_then, out_nx, out_rt, ev_bind, ev_pure, ev_ofOpt, ev_noExc, ev_alloc, ev_need, ev_ite', List.map, List.replicate, List.length, List.cons_append, List.nil_append, envGet, envSet, envDels, envDel, Option.some.injEq, exists_eq_left', Lit.val])
    rw [ev_mul (small_fits (.inl (by omega))), show ((b : Int) * 2) = ((b * 2 : Nat) : Int) by omega]
    exact ⟨j + 1, b * 2, rfl, rfl, by rw [Nat.pow_succ, hb], by omega⟩
  · rw [decide_eq_false (by rw [← Int.natCast_mul]; omega), if_neg (by simp), out_seq]
    refine out_whl (fun m env S' => ∃ bit found : Nat, env = [some (.int n), some (.int bit), some (.int found)] ∧ S' = S ∧ found * found ≤ n ∧ ((∃ i, bit = 2 ^ i ∧ m = i + 1 ∧ i ≤ 21 ∧ n < (found + 2 * bit) * (found + 2 * bit)) ∨ (bit = 0 ∧ m = 0 ∧ n < (found + 1) * (found + 1)))) (fun m env S' hJ => ?_) _ (j + 1) _ _ ⟨b, 0, rfl, rfl, Nat.zero_le _, .inl ⟨j, hb, rfl, by omega, ?_⟩⟩ (Nat.le_trans (show j + 1 ≤ 3000 by omega) (Big.h (fu := fu)))
    · obtain ⟨bit, found, rfl, rfl, hf, hb⟩ := hJ
      clear hle hj
      have hf2 : found ≤ 2 ^ 10 := by
        have := sq_lt (a := found) (b := 2 ^ 10 + 1) (by omega)
        omega
      (simp only [evTs, evT, seqOf, evSs, evS, evE, evEs, evO, evK, evI, evD, out_then, out_nx, out_rt, ev_bind, ev_pure, ev_ofOpt, ev_noExc, ev_alloc, ev_need, ev_ite', List.map, List.replicate, List.length, List.cons_append, List.nil_append, envGet, envSet, envDels, envDel, Option.some.injEq, exists_eq_left', Lit.val])
      rw [ev_gt, ev_tb]
      rcases hb with ⟨i, hbi, hm, hi, hlt⟩ | ⟨rfl, hm, hlt⟩
      · have hp : 0 < 2 ^ i := Nat.pow_pos (by decide)
        have hp2 : 2 ^ i ≤ 2 ^ 21 := Nat.pow_le_pow_right (by decide) hi
        rw [← hbi] at hp hp2
        rw [decide_eq_true (by omega), if_pos (by rfl)]
        refine ⟨i, hm, ?_⟩
        have half : Int.fdiv (bit : Int) 2 = ((bit / 2 : Nat) : Int) := nat_fdiv _ 2
        have fin : ∀ f' : Nat, f' * f' ≤ n → n < (f' + bit) * (f' + bit) → ∃ bit' found : Nat, [some (Val.int n), some (.int ((bit / 2 : Nat) : Int)), some (.int (f' : Int))] = [some (Val.int n), some (.int bit'), some (.int found)] ∧ S' = S' ∧ found * found ≤ n ∧ ((∃ i', bit' = 2 ^ i' ∧ i = i' + 1 ∧ i' ≤ 21 ∧ n < (found + 2 * bit') * (found + 2 * bit')) ∨ (bit' = 0 ∧ i = 0 ∧ n < (found + 1) * (found + 1))) := by
          intro f' h1 h2
          refine ⟨bit / 2, f', rfl, rfl, h1, ?_⟩
          cases i with
          | zero =>
            have hb1 : bit = 1 := hbi
            subst hb1
            exact .inr ⟨rfl, rfl, h2⟩
          | succ i =>
            rw [Nat.pow_succ] at hbi
            have e : bit / 2 = 2 ^ i := by omega
            refine .inl ⟨i, e, rfl, by omega, ?_⟩
            rw [show 2 * (bit / 2) = bit by omega]
            exact h2
        rw [out_seq]
        (simp only [evTs, evT, seqOf, evSs, evS, evE, evEs, evO, evK, evI, evD, out_then, out_nx, out_rt, ev_bind, ev_pure, ev_ofOpt, ev_noExc, ev_alloc, ev_need, ev_ite', List.map, List.replicate, List.length, List.cons_append, List.nil_append, envGet, envSet, envDels, envDel, Option.some.injEq, exists_eq_left', Lit.val])
        rw [ev_add, ev_add, ev_mul (small_fits (.inl (by omega))), ev_le, ev_tb]
        by_cases hs : (found + bit) * (found + bit) ≤ n
        · rw [decide_eq_true (by rw [← Int.natCast_add, ← Int.natCast_mul]; omega), if_pos (by rfl), out_seq]
          (simp only [evTs, evT, seqOf, evSs, evS, evE, evEs, evO, evK, evI, evD, out_then, out_nx, out_rt, ev_bind, ev_pure, ev_ofOpt, ev_noExc, ev_alloc, ev_need, ev_ite', List.map, List.replicate, List.length, List.cons_append, List.nil_append, envGet, envSet, envDels, envDel, Option.some.injEq, exists_eq_left', Lit.val])
          rw [ev_add]
          rw [out_seq]
          (simp only [evTs, evT, seqOf, evSs, evS, evE, evEs, evO, evK, evI, evD, out_then, out_nx, out_rt, ev_bind, ev_pure, ev_ofOpt, ev_noExc, ev_alloc, ev_need, ev_ite', List.map, List.replicate, List.length, List.cons_append, List.nil_append, envGet, envSet, envDels, envDel, Option.some.injEq, exists_eq_left', Lit.val])
          rw [ev_fdiv (by decide), half, ← Int.natCast_add]
          refine fin (found + bit) hs ?_
          rw [show found + bit + bit = found + 2 * bit by omega]
          exact hlt
        · rw [decide_eq_false (by rw [← Int.natCast_add, ← Int.natCast_mul]; omega), if_neg (by simp)]
          (simp only [evTs, evT, seqOf, evSs, evS, evE, evEs, evO, evK, evI, evD, out_then, out_nx, out_rt, ev_bind, ev_pure, ev_ofOpt, ev_noExc, ev_alloc, ev_need, ev_ite', List.map, List.replicate, List.length, List.cons_append, List.nil_append, envGet, envSet, envDels, envDel, Option.some.injEq, exists_eq_left', Lit.val])
          rw [out_seq]
          (simp only [evTs, evT, seqOf, evSs, evS, evE, evEs, evO, evK, evI, evD, out_then, out_nx, out_rt, ev_bind, ev_pure, ev_ofOpt, ev_noExc, ev_alloc, ev_need, ev_ite', List.map, List.replicate, List.length, List.cons_append, List.nil_append, envGet, envSet, envDels, envDel, Option.some.injEq, exists_eq_left', Lit.val])
          rw [ev_fdiv (by decide), half]
          exact fin found hf (by omega)
      · rw [decide_eq_false (by decide), if_neg (by simp), out_seq]
        (simp only [evTs, evT, seqOf, evSs, evS, evE, evEs, evO, evK, evI, evD, out_then, out_nx, out_rt, ev_bind, ev_pure, ev_ofOpt, ev_noExc, ev_alloc, ev_need, ev_ite', List.map, List.replicate, List.length, List.cons_append, List.nil_append, envGet, envSet, envDels, envDel, Option.some.injEq, exists_eq_left', Lit.val])
        rw [isq_uniq hf hlt]
        exact ⟨by first | rfl | trivial, (Old.refl _).sweep⟩
    · have := Nat.mul_le_mul (show b ≤ 0 + 2 * b by omega) (show b ≤ 0 + 2 * b by omega)
      omega
end K00

namespace K00
open PySem L2 Pd
open scoped Classical
variable {fu : Nat} [Big fu]
/-! ### roots of pairs -/
def rtV (p : Int × Int) : Val := match rt p with
  | some q => .tup [.int q.1, .int q.2]
  | none => .non
theorem rt_nat {a b : Nat} : rt ((a : Int), (b : Int)) = if isq a * isq a = a ∧ isq b * isq b = b then some (((isq a : Nat) : Int), ((isq b : Nat) : Int)) else none := rfl
theorem isq_small {n : Nat} (h : n ≤ 2 ^ 20) : isq n ≤ 1024 := isq_mono (by omega)
theorem root_of_ok {k : Nat} {S : Store} {a b : Nat} (ha : a ≤ 2 ^ 20) (hb : b ≤ 2 ^ 20) : Ev (callF T fu (k + 2) 3 [.int a, .int b] S) fun v S' => v = rtV (a, b) ∧ Old S S' := by
  (refine ev_call (d := f3) rfl rfl ?_; simp only [f3, evTs, evT, seqOf, evSs, evS, evE, evEs, evO, evK, evI, evD, out_then, out_nx, out_rt, ev_bind, ev_pure, ev_ofOpt, ev_noExc, ev_alloc, ev_need, ev_ite', List.map, List.replicate, List.length, List.cons_append, List.nil_append, envGet, envSet, envDels, envDel, Option.some.injEq, exists_eq_left', Lit.val])
  rw [out_seq]
  (simp only [evTs, evT, seqOf, evSs, evS, evE, evEs, evO, evK, evI, evD, out_then, out_nx, out_rt, ev_bind, ev_pure, ev_ofOpt, ev_noExc, ev_alloc, ev_need, ev_ite', List.map, List.replicate, List.length, List.cons_append, List.nil_append, envGet, envSet, envDels, envDel, Option.some.injEq, exists_eq_left', Lit.val])
  refine (whole_root_ok (k := k) ha).imp fun v S1 q => ?_
  have hv := q.1
  have o1 := q.2
  clear q
  subst hv
  refine (whole_root_ok (k := k) hb).imp fun v S2 q => ?_
  have hv := q.1
  have o2 := q.2
  clear q
  subst hv
  have s1 := isq_small ha
  have s2 := isq_small hb
  rw [out_seq]
  (simp only [evTs, evT, seqOf, evSs, evS, evE, evEs, evO, evK, evI, evD, out_then, out_nx, out_rt, ev_bind, ev_pure, ev_ofOpt, ev_noExc, ev_alloc, ev_need, ev_ite', List.map, List.replicate, List.length, List.cons_append, List.nil_append, envGet, envSet, envDels, envDel, Option.some.injEq, exists_eq_left', Lit.val])
  rw [ev_mul (small_fits (.inl (by omega))), ev_neI, ev_tb]
  unfold rtV
  rw [rt_nat]
  by_cases h1 : isq a * isq a = a
  · rw [decide_eq_true (by rw [← Int.natCast_mul]; omega), Bool.not_true, if_neg (by simp), ev_mul (small_fits (.inl (by omega))), ev_neI, ev_tb]
    by_cases h2 : isq b * isq b = b
    · rw [decide_eq_true (by rw [← Int.natCast_mul]; omega), Bool.not_true, if_neg (by simp), if_pos ⟨h1, h2⟩]
      (simp only [evTs, evT, seqOf, evSs, evS, evE, evEs, evO, evK, evI, evD, out_then, out_nx, out_rt, ev_bind, ev_pure, ev_ofOpt, ev_noExc, ev_alloc, ev_need, ev_ite', List.map, List.replicate, List.length, List.cons_append, List.nil_append, envGet, envSet, envDels, envDel, Option.some.injEq, exists_eq_left', Lit.val])
      rw [out_seq]
      (simp only [evTs, evT, seqOf, evSs, evS, evE, evEs, evO, evK, evI, evD, out_then, out_nx, out_rt, ev_bind, ev_pure, ev_ofOpt, ev_noExc, ev_alloc, ev_need, ev_ite', List.map, List.replicate, List.length, List.cons_append, List.nil_append, envGet, envSet, envDels, envDel, Option.some.injEq, exists_eq_left', Lit.val])
      exact ⟨by first | rfl | trivial, by first | rfl | trivial, (o1.trans o2).sweep⟩
    · rw [decide_eq_false (by rw [← Int.natCast_mul]; omega), Bool.not_false, if_pos (by rfl), if_neg (fun z => h2 z.2), out_seq]
      (simp only [evTs, evT, seqOf, evSs, evS, evE, evEs, evO, evK, evI, evD, out_then, out_nx, out_rt, ev_bind, ev_pure, ev_ofOpt, ev_noExc, ev_alloc, ev_need, ev_ite', List.map, List.replicate, List.length, List.cons_append, List.nil_append, envGet, envSet, envDels, envDel, Option.some.injEq, exists_eq_left', Lit.val])
      exact ⟨by first | rfl | trivial, (o1.trans o2).sweep⟩
  · rw [decide_eq_false (by rw [← Int.natCast_mul]; omega), Bool.not_false, if_pos (by rfl), ev_tb, if_pos (by rfl), if_neg (fun z => h1 z.1), out_seq]
    (simp only [evTs, evT, seqOf, evSs, evS, evE, evEs, evO, evK, evI, evD, out_then, out_nx, out_rt, ev_bind, ev_pure, ev_ofOpt, ev_noExc, ev_alloc, ev_need, ev_ite', List.map, List.replicate, List.length, List.cons_append, List.nil_append, envGet, envSet, envDels, envDel, Option.some.injEq, exists_eq_left', Lit.val])
    exact ⟨by first | rfl | trivial, (o1.trans o2).sweep⟩
/-! ### equality of rows of numbers -/
theorem eqvAll_ints : ∀ xs ys : List Int, PyData.eqvAll (xs.map PyData.int) (ys.map PyData.int) = decide (xs = ys)
  | [], [] => by simp [PyData.eqvAll]
  | [], y :: ys => by simp [PyData.eqvAll]
  | x :: xs, [] => by simp [PyData.eqvAll]
  | x :: xs, y :: ys => by
    have ih := eqvAll_ints xs ys
    simp only [List.map_cons, PyData.eqvAll, ih, PyData.eqv]
    by_cases h1 : x = y
    · subst h1
      simp
    · simp [h1]
theorem toDs_ints : ∀ xs : List Int, toDs (xs.map .int) = xs.map PyData.int
  | [] => rfl
  | x :: xs => by rw [List.map_cons, List.map_cons, toDs, toDs_ints xs]; rfl
theorem shaped_tup {vs : List Val} (h : sims vs = true) (hd : vdeps vs ≤ 59) : SeqAt.shaped (.tuple (toDs vs)) = true := shaped_sim (v := .tup vs) h (by show vdeps vs + 1 ≤ 60; omega)
theorem eq_ints {S : Store} {xs ys : List Int} : Pd.eqV S (.tup (xs.map .int)) (.tup (ys.map .int)) = some (decide (xs = ys)) := by
  obtain ⟨a1, a2⟩ := sims_ints xs
  obtain ⟨b1, b2⟩ := sims_ints ys
  have e1 : dat S 60 (.tup (xs.map .int)) = some (.tuple (xs.map PyData.int)) := by
    rw [dat_sim (.tup (xs.map .int)) 60 a1 (by show vdeps _ + 1 ≤ 60; omega)]
    show some (PyData.tuple (toDs _)) = _
    rw [toDs_ints]
  have e2 : dat S 60 (.tup (ys.map .int)) = some (.tuple (ys.map PyData.int)) := by
    rw [dat_sim (.tup (ys.map .int)) 60 b1 (by show vdeps _ + 1 ≤ 60; omega)]
    show some (PyData.tuple (toDs _)) = _
    rw [toDs_ints]
  have s1 := shaped_tup a1 (by omega)
  have s2 := shaped_tup b1 (by omega)
  rw [toDs_ints] at s1 s2
  unfold Pd.eqV
  simp only [e1, e2, s1, s2]
  rw [← eqvAll_ints]
  rfl
theorem law_root_ok {k : Nat} {S : Store} {a b : Nat} (ha : a ≤ 2 ^ 20) (hb : b ≤ 2 ^ 20) : Ev (callF T fu (k + 2) 10 [.tup [.int a, .int b]] S) fun v S' => v = rtV (a, b) ∧ Old S S' := by
  have s1 := isq_small ha
  have s2 := isq_small hb
  (refine ev_call (d := f10) rfl rfl ?_; simp only [f10, evTs, evT, seqOf, evSs, evS, evE, evEs, evO, evK, evI, evD, out_then, out_nx, out_rt, ev_bind, ev_pure, ev_ofOpt, ev_noExc, ev_alloc, ev_need, ev_ite', List.map, List.replicate, List.length, List.cons_append, List.nil_append, envGet, envSet, envDels, envDel, Option.some.injEq, exists_eq_left', Lit.val])
  rw [out_seq]
  (simp only [evTs, evT, seqOf, evSs, evS, evE, evEs, evO, evK, evI, evD, out_then, out_nx, out_rt, ev_bind, ev_pure, ev_ofOpt, ev_noExc, ev_alloc, ev_need, ev_ite', List.map, List.replicate, List.length, List.cons_append, List.nil_append, envGet, envSet, envDels, envDel, Option.some.injEq, exists_eq_left', Lit.val])
  rw [ev_srcT]
  refine lc_stat (fun v => match v with | .int i => .int (isq i.toNat : Nat) | _ => .non) (by simp) (fun v S' hv o => ?_) (fun S1 o1 => ?_)
  · refine ⟨_, rfl, ⟨rfl, rfl⟩, ?_⟩
    (simp only [evTs, evT, seqOf, evSs, evS, evE, evEs, evO, evK, evI, evD, out_then, out_nx, out_rt, ev_bind, ev_pure, ev_ofOpt, ev_noExc, ev_alloc, ev_need, ev_ite', List.map, List.replicate, List.length, List.cons_append, List.nil_append, envGet, envSet, envDels, envDel, Option.some.injEq, exists_eq_left', Lit.val])
    have hv : v = .int a ∨ v = .int b := by simpa using hv
    rcases hv with rfl | rfl
    · exact (sqr_ok (k := k) ha).imp fun v S2 q => q
    · exact (sqr_ok (k := k) hb).imp fun v S2 q => q
  · have e : (S1 ++ [Cell.lst (List.map (fun v => match v with | Val.int i => Val.int (isq i.toNat : Nat) | x => Val.non) [Val.int ↑a, Val.int ↑b])])[List.length S1]? = some (.lst [.int (isq a : Nat), .int (isq b : Nat)]) := snoc_new
    have o2 : Old S (S1 ++ [Cell.lst (List.map (fun v => match v with | Val.int i => Val.int (isq i.toNat : Nat) | x => Val.non) [Val.int ↑a, Val.int ↑b])]) := o1.trans Old.snoc
    generalize S1 ++ [Cell.lst (List.map (fun v => match v with | Val.int i => Val.int (isq i.toNat : Nat) | x => Val.non) [Val.int ↑a, Val.int ↑b])] = S2 at e o2 ⊢
    rw [e]
    unfold rtV
    rw [rt_nat]
    generalize isq a = x at *
    generalize isq b = y at *
    show Out (RS.nx _ S2) _ _
    rw [out_nx, out_seq]
    (simp only [evTs, evT, seqOf, evSs, evS, evE, evEs, evO, evK, evI, evD, out_then, out_nx, out_rt, ev_bind, ev_pure, ev_ofOpt, ev_noExc, ev_alloc, ev_need, ev_ite', List.map, List.replicate, List.length, List.cons_append, List.nil_append, envGet, envSet, envDels, envDel, Option.some.injEq, exists_eq_left', Lit.val])
    rw [ev_mul (small_fits (.inl (by omega))), ev_mul (small_fits (.inl (by omega)))]
    refine ⟨by first | rfl | trivial, ?_⟩
    rw [ev_eq (show Pd.eqV S2 (.tup [.int ((x : Int) * x), .int ((y : Int) * y)]) (.tup [.int a, .int b]) = some (decide ([(x : Int) * x, (y : Int) * y] = [(a : Int), (b : Int)])) from eq_ints (xs := [(x : Int) * x, (y : Int) * y]) (ys := [(a : Int), (b : Int)])), ev_tb]
    by_cases h : x * x = a ∧ y * y = b
    · rw [if_pos h, decide_eq_true (by rw [← h.1, ← h.2, Int.natCast_mul, Int.natCast_mul]), if_pos (by rfl)]
      exact ⟨by first | rfl | trivial, by first | rfl | trivial, o2.sweep⟩
    · rw [if_neg h, decide_eq_false (fun z => h (by
        injection z with z1 z2
        injection z2 with z2 _
        rw [← Int.natCast_mul] at z1 z2
        omega)), if_neg (by simp)]
      exact ⟨by first | rfl | trivial, o2.sweep⟩
end K00

namespace K00
open PySem L2 Pd
open scoped Classical
variable {fu : Nat} [Big fu]
theorem ofString_len (s : String) : (Str.ofString s).length = s.toList.length := PyProof.Rows.ofString_length s
theorem nat_text (n : Nat) : (toString n).toList = Nat.toDigits 10 n := by
  show (Nat.repr n).toList = _
  unfold Nat.repr
  simp
theorem int_text {i : Int} (h : i.natAbs < 10 ^ 12) : (PyData.shown (.int i)).length ≤ 13 := by
  show (Str.ofString (toString i)).length ≤ 13
  rw [ofString_len]
  have key : ∀ n : Nat, n < 10 ^ 12 → (toString n).toList.length ≤ 12 := fun n hn => by
    rw [nat_text]
    exact (Nat.length_toDigits_le_iff (by decide) (by decide)).mpr hn
  cases i with
  | ofNat n =>
    have := key n (by simpa using h)
    show (toString n).toList.length ≤ 13
    omega
  | negSucc n =>
    have := key (n + 1) (by simpa using h)
    show ("-" ++ toString (n + 1)).toList.length ≤ 13
    rw [String.toList_append, List.length_append]
    show 1 + _ ≤ 13
    omega
theorem short_int {i : Int} (h : i.natAbs < 10 ^ 12) : Short (.int i) 60 := by
  refine ⟨rfl, by simp [vdep], ?_, ?_, ?_⟩
  · simp only [toD, PyData.weight]
    split
    · omega
    · rename_i hne
      have : i.natAbs.log2 < 40 := (Nat.log2_lt (by
        intro z
        exact hne (by simpa using z))).mpr (Nat.lt_trans h (by decide))
      omega
  · simp only [toD, PyData.intsShort, decide_eq_true_eq]
    exact int_text h
  · simp only [toD, PyData.showable, decide_eq_true_eq]
    refine Nat.lt_of_le_of_lt (m := 40) ?_ (by decide)
    by_cases h0 : i.natAbs = 0
    · rw [h0]; decide
    · exact Nat.le_of_lt ((Nat.log2_lt h0).mpr (Nat.lt_trans h (by decide)))
end K00

namespace K00
open PySem L2 Pd
open scoped Classical
variable {fu : Nat} [Big fu]
/-! ### whole numbers, and none -/
def isI : Val → Bool
  | .int _ => true
  | _ => false
def isB : Val → Bool
  | .bl _ => true
  | _ => false
theorem ref_ty (S : Store) (i : Nat) (t : Ty) (h : t = .int ∨ t = .bool) : tyMatch (Pd.tyV S (.ref i)) t = false := by
  simp only [Pd.tyV]
  rcases h with rfl | rfl
  · cases S[i]? with
    | none => rfl
    | some c => cases c <;> rfl
  · cases S[i]? with
    | none => rfl
    | some c => cases c <;> rfl
theorem int_ty (S : Store) (v : Val) : ([Ty.int].any (tyMatch (Pd.tyV S v))) = (isI v || isB v) := by
  cases v <;> try rfl
  rename_i i
  simp only [List.any_cons, List.any_nil, ref_ty S i .int (.inl rfl)]
  rfl
theorem bool_ty (S : Store) (v : Val) : ([Ty.bool].any (tyMatch (Pd.tyV S v))) = isB v := by
  cases v <;> try rfl
  rename_i i
  simp only [List.any_cons, List.any_nil, ref_ty S i .bool (.inr rfl)]
  rfl
theorem is_whole_ok {k : Nat} {S : Store} {v : Val} : Ev (callF T fu (k + 1) 0 [v] S) fun u S' => u = .bl (isI v) ∧ Old S S' := by
  (refine ev_call (d := f0) rfl rfl ?_; simp only [f0, evTs, evT, seqOf, evSs, evS, evE, evEs, evO, evK, evI, evD, out_then, out_nx, out_rt, ev_bind, ev_pure, ev_ofOpt, ev_noExc, ev_alloc, ev_need, ev_ite', List.map, List.replicate, List.length, List.cons_append, List.nil_append, envGet, envSet, envDels, envDel, Option.some.injEq, exists_eq_left', Lit.val])
  rw [out_seq]
  (simp only [evTs, evT, seqOf, evSs, evS, evE, evEs, evO, evK, evI, evD, out_then, out_nx, out_rt, ev_bind, ev_pure, ev_ofOpt, ev_noExc, ev_alloc, ev_need, ev_ite', List.map, List.replicate, List.length, List.cons_append, List.nil_append, envGet, envSet, envDels, envDel, Option.some.injEq, exists_eq_left', Lit.val])
  rw [ev_isin, int_ty, ev_tb]
  cases hI : isI v with
  | true =>
    rw [Bool.true_or, if_pos (by rfl), ev_isin, bool_ty, ev_tb]
    have : isB v = false := by cases v <;> first | rfl | cases hI
    rw [this]
    exact ⟨rfl, (Old.refl S).sweep⟩
  | false =>
    cases hB : isB v with
    | true =>
      rw [Bool.false_or, if_pos (by rfl), ev_isin, bool_ty, hB, ev_tb]
      exact ⟨rfl, (Old.refl S).sweep⟩
    | false =>
      rw [Bool.false_or, if_neg (by simp)]
      exact ⟨rfl, (Old.refl S).sweep⟩
def rightB (a b c d e : Val) : Bool := match a, b, c, d, e with
  | .int _, .int b, .int s, .int o, .int u => decide (0 < b) && (decide (0 < u) && (decide (0 ≤ o) && (decide (-1 ≤ s) && decide (s ≤ 1))))
  | _, _, _, _, _ => false
theorem right_ints {a b c d e : Val} (h : isI a = true ∧ isI b = true ∧ isI c = true ∧ isI d = true ∧ isI e = true) : ∃ t x s o u : Int, a = .int t ∧ b = .int x ∧ c = .int s ∧ d = .int o ∧ e = .int u := by
  obtain ⟨h1, h2, h3, h4, h5⟩ := h
  cases a <;> first | cases h1 | skip
  cases b <;> first | cases h2 | skip
  cases c <;> first | cases h3 | skip
  cases d <;> first | cases h4 | skip
  cases e <;> first | cases h5 | skip
  exact ⟨_, _, _, _, _, rfl, rfl, rfl, rfl, rfl⟩
theorem right_five {a b c d e : Val} (h : rightB a b c d e = true) : ∃ t x s o u : Int, a = .int t ∧ b = .int x ∧ c = .int s ∧ d = .int o ∧ e = .int u ∧ Five t x s o u := by
  unfold rightB at h
  split at h
  · simp only [Bool.and_eq_true, decide_eq_true_eq] at h
    exact ⟨_, _, _, _, _, rfl, rfl, rfl, rfl, rfl, ⟨h.1, h.2.1, h.2.2.1, h.2.2.2⟩⟩
  · cases h
theorem right_not {a b c d e : Val} (h : (isI a && (isI b && (isI c && (isI d && isI e)))) = false) : rightB a b c d e = false := by
  unfold rightB
  split
  · cases h
  · rfl
theorem five_right {t b s o u : Int} (F : Five t b s o u) : rightB (.int t) (.int b) (.int s) (.int o) (.int u) = true := by
  simp only [rightB, Bool.and_eq_true, decide_eq_true_eq]
  exact ⟨F.b, F.u, F.o, F.s.1, F.s.2⟩
theorem are_right_ok {k : Nat} {S : Store} {a b c d e : Val} : Ev (callF T fu (k + 2) 5 [a, b, c, d, e] S) fun u S' => u = .bl (rightB a b c d e) ∧ Old S S' := by
  (refine ev_call (d := f5) rfl rfl ?_; simp only [f5, evTs, evT, seqOf, evSs, evS, evE, evEs, evO, evK, evI, evD, out_then, out_nx, out_rt, ev_bind, ev_pure, ev_ofOpt, ev_noExc, ev_alloc, ev_need, ev_ite', List.map, List.replicate, List.length, List.cons_append, List.nil_append, envGet, envSet, envDels, envDel, Option.some.injEq, exists_eq_left', Lit.val])
  rw [out_seq]
  (simp only [evTs, evT, seqOf, evSs, evS, evE, evEs, evO, evK, evI, evD, out_then, out_nx, out_rt, ev_bind, ev_pure, ev_ofOpt, ev_noExc, ev_alloc, ev_need, ev_ite', List.map, List.replicate, List.length, List.cons_append, List.nil_append, envGet, envSet, envDels, envDel, Option.some.injEq, exists_eq_left', Lit.val])
  refine ⟨by first | rfl | trivial, ?_⟩
  rw [ev_srcT]
  refine lc_stat (fun v => .bl (isI v)) (by simp) (fun v S' hv o => ?_) (fun S1 o1 => ?_)
  · refine ⟨_, rfl, ⟨rfl, rfl⟩, ?_⟩
    (simp only [evTs, evT, seqOf, evSs, evS, evE, evEs, evO, evK, evI, evD, out_then, out_nx, out_rt, ev_bind, ev_pure, ev_ofOpt, ev_noExc, ev_alloc, ev_need, ev_ite', List.map, List.replicate, List.length, List.cons_append, List.nil_append, envGet, envSet, envDels, envDel, Option.some.injEq, exists_eq_left', Lit.val])
    exact is_whole_ok (k := k)
  · have hl : (S1 ++ [Cell.lst ([a, b, c, d, e].map fun v => .bl (isI v))])[S1.length]? = some (.lst ([isI a, isI b, isI c, isI d, isI e].map .bl)) := snoc_new
    have o2 : Old S (S1 ++ [Cell.lst ([a, b, c, d, e].map fun v => .bl (isI v))]) := o1.trans Old.snoc
    generalize S1 ++ [Cell.lst ([a, b, c, d, e].map fun v => .bl (isI v))] = S2 at hl o2 ⊢
    rw [ev_all hl, ev_tb]
    have hall : ([isI a, isI b, isI c, isI d, isI e].all id) = (isI a && (isI b && (isI c && (isI d && isI e)))) := by simp
    rw [hall]
    cases hA : (isI a && (isI b && (isI c && (isI d && isI e)))) with
    | false =>
      rw [ev_tb, Bool.not_false, if_pos (by rfl), out_seq]
      (simp only [evTs, evT, seqOf, evSs, evS, evE, evEs, evO, evK, evI, evD, out_then, out_nx, out_rt, ev_bind, ev_pure, ev_ofOpt, ev_noExc, ev_alloc, ev_need, ev_ite', List.map, List.replicate, List.length, List.cons_append, List.nil_append, envGet, envSet, envDels, envDel, Option.some.injEq, exists_eq_left', Lit.val])
      rw [right_not hA]
      exact ⟨by first | rfl | trivial, o2.sweep⟩
    | true =>
      simp only [Bool.and_eq_true] at hA
      obtain ⟨t, x, s, o, u, rfl, rfl, rfl, rfl, rfl⟩ := right_ints hA
      rw [ev_tb, Bool.not_true, if_neg (by simp)]
      (simp only [evTs, evT, seqOf, evSs, evS, evE, evEs, evO, evK, evI, evD, out_then, out_nx, out_rt, ev_bind, ev_pure, ev_ofOpt, ev_noExc, ev_alloc, ev_need, ev_ite', List.map, List.replicate, List.length, List.cons_append, List.nil_append, envGet, envSet, envDels, envDel, Option.some.injEq, exists_eq_left', Lit.val])
      rw [out_seq]
      (simp only [evTs, evT, seqOf, evSs, evS, evE, evEs, evO, evK, evI, evD, out_then, out_nx, out_rt, ev_bind, ev_pure, ev_ofOpt, ev_noExc, ev_alloc, ev_need, ev_ite', List.map, List.replicate, List.length, List.cons_append, List.nil_append, envGet, envSet, envDels, envDel, Option.some.injEq, exists_eq_left', Lit.val])
      simp only [rightB]
      rw [ev_gt, ev_tb]
      by_cases h1 : 0 < x
      · rw [decide_eq_true h1, if_pos (by rfl), ev_gt, ev_tb]
        by_cases h2 : 0 < u
        · rw [decide_eq_true h2, if_pos (by rfl), ev_ge, ev_tb]
          by_cases h3 : 0 ≤ o
          · rw [decide_eq_true h3, if_pos (by rfl), ev_le, ev_tb]
            by_cases h4 : -1 ≤ s
            · rw [decide_eq_true h4, if_pos (by rfl), ev_le]
              exact ⟨by simp, o2.sweep⟩
            · rw [decide_eq_false h4, if_neg (by simp)]
              exact ⟨by simp, o2.sweep⟩
          · rw [decide_eq_false h3, if_neg (by simp)]
            exact ⟨by simp, o2.sweep⟩
        · rw [decide_eq_false h2, if_neg (by simp)]
          exact ⟨by simp, o2.sweep⟩
      · rw [decide_eq_false h1, if_neg (by simp)]
        exact ⟨by simp, o2.sweep⟩
/-- the sum of quotients -/
theorem sum_of_ok {k : Nat} {S : Store} {a b c d : Int} (hb : 0 < b) (hd : 0 < d) (ha : a.natAbs ≤ 2 ^ 60) (hb2 : b ≤ 2 ^ 60) (hc : c.natAbs ≤ 2 ^ 60) (hd2 : d ≤ 2 ^ 60) : Ev (callF T fu (k + 2) 4 [.tup [.int a, .int b], .tup [.int c, .int d]] S) fun v S' => v = .tup [.int (lo (a * d + c * b) (b * d)).1, .int (lo (a * d + c * b) (b * d)).2] ∧ Old S S' := by
  (refine ev_call (d := f4) rfl rfl ?_; simp only [f4, evTs, evT, seqOf, evSs, evS, evE, evEs, evO, evK, evI, evD, out_then, out_nx, out_rt, ev_bind, ev_pure, ev_ofOpt, ev_noExc, ev_alloc, ev_need, ev_ite', List.map, List.replicate, List.length, List.cons_append, List.nil_append, envGet, envSet, envDels, envDel, Option.some.injEq, exists_eq_left', Lit.val])
  rw [out_seq]
  (simp only [evTs, evT, seqOf, evSs, evS, evE, evEs, evO, evK, evI, evD, out_then, out_nx, out_rt, ev_bind, ev_pure, ev_ofOpt, ev_noExc, ev_alloc, ev_need, ev_ite', List.map, List.replicate, List.length, List.cons_append, List.nil_append, envGet, envSet, envDels, envDel, Option.some.injEq, exists_eq_left', Lit.val])
  rw [ev_idxT (show L2.atI _ 0 = some _ from at_zero), ev_idxT (show L2.atI _ 1 = some _ from at_pair), ev_mul (small_fits (.inl (by omega))), ev_idxT (show L2.atI _ 0 = some _ from at_zero), ev_idxT (show L2.atI _ 1 = some _ from at_pair), ev_mul (small_fits (.inl (by omega))), ev_add, ev_idxT (show L2.atI _ 1 = some _ from at_pair), ev_idxT (show L2.atI _ 1 = some _ from at_pair), ev_mul (small_fits (.inl (by omega)))]
  refine (lowest_ok (k := k) (Int.mul_pos hb hd) ?_).imp fun v S1 q => ?_
  · rw [Int.natAbs_mul]
    have := Nat.mul_le_mul (show b.natAbs ≤ 2 ^ 60 by omega) (show d.natAbs ≤ 2 ^ 60 by omega)
    exact Nat.lt_of_le_of_lt this (by decide)
  · exact ⟨q.1, q.2.sweep⟩
end K00

namespace K00
open PySem L2 Pd
open scoped Classical
variable {fu : Nat} [Big fu]
def F5 (x : T5) : List Val := [.int x.1, .int x.2.1, .int x.2.2.1, .int x.2.2.2.1, .int x.2.2.2.2]
theorem ev_notT {S : Store} {Q : Val → Store → Prop} {l : List Val} : Ev (cmpV .notN (.tup l) .non S) Q = Q (.bl true) S := rfl
theorem ev_notN {S : Store} {Q : Val → Store → Prop} : Ev (cmpV .notN .non .non S) Q = Q (.bl false) S := rfl
structure Bd (t b o u : Int) : Prop where
  t : t.natAbs ≤ 2 ^ 45
  b : b ≤ 2 ^ 45
  o : o ≤ 2 ^ 20
  u : u ≤ 2 ^ 20
theorem lo_nat {t b s o u : Int} (F : Five t b s o u) (B : Bd t b o u) : ∃ x y : Nat, lo o u = ((x : Int), (y : Int)) ∧ x ≤ 2 ^ 20 ∧ y ≤ 2 ^ 20 ∧ 0 < y := by
  obtain ⟨l1, l2⟩ := lo_two (a := o) F.u
  obtain ⟨a1, a2, l3⟩ := lo_abs (a := o) F.u
  have l3 := l3 F.o
  have b1 := B.o
  have b2 := B.u
  have b3 := F.o
  refine ⟨(lo o u).1.toNat, (lo o u).2.toNat, ?_, by omega, by omega, by omega⟩
  rw [Int.toNat_of_nonneg l3, Int.toNat_of_nonneg (by omega)]
theorem rt_small {x y : Nat} (hx : x ≤ 2 ^ 20) (hy : y ≤ 2 ^ 20) (hp : 0 < y) {q : Int × Int} (h : rt ((x : Int), (y : Int)) = some q) : 0 ≤ q.1 ∧ q.1 ≤ 1024 ∧ 0 < q.2 ∧ q.2 ≤ 1024 := by
  obtain ⟨q1, q2, _, _⟩ := rt_some h (by show (0 : Int) < (y : Int); omega) (by show (0 : Int) ≤ (x : Int); omega)
  rw [rt_nat] at h
  split at h
  · cases h
    have s1 := isq_small hx
    have s2 := isq_small hy
    refine ⟨q2, ?_, q1, ?_⟩
    · show ((isq x : Nat) : Int) ≤ 1024
      omega
    · show ((isq y : Nat) : Int) ≤ 1024
      omega
  · cases h
theorem mul_le {a b : Int} {m n : Nat} (ha : a.natAbs ≤ m) (hb : b.natAbs ≤ n) : (a * b).natAbs ≤ m * n := by
  rw [Int.natAbs_mul]
  exact Nat.mul_le_mul ha hb
theorem law_form_ok {k : Nat} {S : Store} {t b s o u : Int} (F : Five t b s o u) (B : Bd t b o u) : Ev (callF T fu (k + 3) 11 [.int t, .int b, .int s, .int o, .int u] S) fun v S' => v = .tup (F5 (form t b s o u)) ∧ Old S S' := by
  have fb := F.b
  have fs := F.s
  have bt := B.t
  have bb := B.b
  have bu := B.u
  have fu0 := F.u
  (refine ev_call (d := f11) rfl rfl ?_; simp only [f11, evTs, evT, seqOf, evSs, evS, evE, evEs, evO, evK, evI, evD, out_then, out_nx, out_rt, ev_bind, ev_pure, ev_ofOpt, ev_noExc, ev_alloc, ev_need, ev_ite', List.map, List.replicate, List.length, List.cons_append, List.nil_append, envGet, envSet, envDels, envDel, Option.some.injEq, exists_eq_left', Lit.val])
  rw [out_seq]
  (simp only [evTs, evT, seqOf, evSs, evS, evE, evEs, evO, evK, evI, evD, out_then, out_nx, out_rt, ev_bind, ev_pure, ev_ofOpt, ev_noExc, ev_alloc, ev_need, ev_ite', List.map, List.replicate, List.length, List.cons_append, List.nil_append, envGet, envSet, envDels, envDel, Option.some.injEq, exists_eq_left', Lit.val])
  refine (lowest2_ok (k := k + 1) F.u (Nat.lt_of_le_of_lt (show u.natAbs ≤ 2 ^ 20 by omega) (by decide))).imp fun v S1 q => ?_
  have hv := q.1
  have o1 := q.2
  clear q
  subst hv
  obtain ⟨x, y, hlo, hx, hy, hy0⟩ := lo_nat F B
  unfold form
  rw [hlo, out_seq]
  (simp only [evTs, evT, seqOf, evSs, evS, evE, evEs, evO, evK, evI, evD, out_then, out_nx, out_rt, ev_bind, ev_pure, ev_ofOpt, ev_noExc, ev_alloc, ev_need, ev_ite', List.map, List.replicate, List.length, List.cons_append, List.nil_append, envGet, envSet, envDels, envDel, Option.some.injEq, exists_eq_left', Lit.val])
  refine (law_root_ok (k := k) hx hy).imp fun v S2 q => ?_
  have hv := q.1
  have o2 := q.2
  clear q
  subst hv
  rw [out_seq]
  (simp only [evTs, evT, seqOf, evSs, evS, evE, evEs, evO, evK, evI, evD, out_then, out_nx, out_rt, ev_bind, ev_pure, ev_ofOpt, ev_noExc, ev_alloc, ev_need, ev_ite', List.map, List.replicate, List.length, List.cons_append, List.nil_append, envGet, envSet, envDels, envDel, Option.some.injEq, exists_eq_left', Lit.val])
  unfold rtV
  cases hr : rt ((x : Int), (y : Int)) with
  | some q =>
    obtain ⟨g1, g2, g3, g4⟩ := rt_small hx hy hy0 hr
    dsimp only
    rw [ev_notT, ev_tb, if_pos (by rfl), out_seq]
    (simp only [evTs, evT, seqOf, evSs, evS, evE, evEs, evO, evK, evI, evD, out_then, out_nx, out_rt, ev_bind, ev_pure, ev_ofOpt, ev_noExc, ev_alloc, ev_need, ev_ite', List.map, List.replicate, List.length, List.cons_append, List.nil_append, envGet, envSet, envDels, envDel, Option.some.injEq, exists_eq_left', Lit.val])
    have m1 := mul_le (show t.natAbs ≤ 2 ^ 45 by omega) (show q.2.natAbs ≤ 1024 by omega)
    have m2 := mul_le (show s.natAbs ≤ 1 by omega) (show q.1.natAbs ≤ 1024 by omega)
    have m3 := mul_le m2 (show b.natAbs ≤ 2 ^ 45 by omega)
    have m4 := mul_le (show b.natAbs ≤ 2 ^ 45 by omega) (show q.2.natAbs ≤ 1024 by omega)
    rw [ev_idxT (show L2.atI _ 1 = some _ from at_pair), ev_mul (small_fits (.inr (by omega))), ev_idxT (show L2.atI _ 0 = some _ from at_zero), ev_mul (small_fits (.inr (by omega))), ev_mul (small_fits (.inr (by omega))), ev_add, out_seq]
    (simp only [evTs, evT, seqOf, evSs, evS, evE, evEs, evO, evK, evI, evD, out_then, out_nx, out_rt, ev_bind, ev_pure, ev_ofOpt, ev_noExc, ev_alloc, ev_need, ev_ite', List.map, List.replicate, List.length, List.cons_append, List.nil_append, envGet, envSet, envDels, envDel, Option.some.injEq, exists_eq_left', Lit.val])
    rw [ev_idxT (show L2.atI _ 1 = some _ from at_pair), ev_mul (small_fits (.inr (by omega)))]
    rw [out_seq]
    (simp only [evTs, evT, seqOf, evSs, evS, evE, evEs, evO, evK, evI, evD, out_then, out_nx, out_rt, ev_bind, ev_pure, ev_ofOpt, ev_noExc, ev_alloc, ev_need, ev_ite', List.map, List.replicate, List.length, List.cons_append, List.nil_append, envGet, envSet, envDels, envDel, Option.some.injEq, exists_eq_left', Lit.val])
    rw [ev_eqI, decide_eq_true rfl, ev_tb, if_pos (by rfl), out_seq]
    (simp only [evTs, evT, seqOf, evSs, evS, evE, evEs, evO, evK, evI, evD, out_then, out_nx, out_rt, ev_bind, ev_pure, ev_ofOpt, ev_noExc, ev_alloc, ev_need, ev_ite', List.map, List.replicate, List.length, List.cons_append, List.nil_append, envGet, envSet, envDels, envDel, Option.some.injEq, exists_eq_left', Lit.val])
    refine ⟨by first | rfl | trivial, ?_⟩
    rw [out_seq]
    (simp only [evTs, evT, seqOf, evSs, evS, evE, evEs, evO, evK, evI, evD, out_then, out_nx, out_rt, ev_bind, ev_pure, ev_ofOpt, ev_noExc, ev_alloc, ev_need, ev_ite', List.map, List.replicate, List.length, List.cons_append, List.nil_append, envGet, envSet, envDels, envDel, Option.some.injEq, exists_eq_left', Lit.val])
    refine (lowest2_ok (k := k + 1) (Int.mul_pos fb g3) (Nat.lt_of_le_of_lt m4 (by decide))).imp fun v S3 q' => ?_
    have hv := q'.1
    have o3 := q'.2
    clear q'
    subst hv
    refine ⟨by first | rfl | trivial, ?_⟩
    rw [ev_catT (by simp [sizeMax]), ev_catT (by simp [sizeMax])]
    exact ⟨rfl, ((o1.trans o2).trans o3).sweep⟩
  | none =>
    dsimp only
    rw [ev_notN, ev_tb, if_neg (by simp)]
    (simp only [evTs, evT, seqOf, evSs, evS, evE, evEs, evO, evK, evI, evD, out_then, out_nx, out_rt, ev_bind, ev_pure, ev_ofOpt, ev_noExc, ev_alloc, ev_need, ev_ite', List.map, List.replicate, List.length, List.cons_append, List.nil_append, envGet, envSet, envDels, envDel, Option.some.injEq, exists_eq_left', Lit.val])
    rw [out_seq]
    (simp only [evTs, evT, seqOf, evSs, evS, evE, evEs, evO, evK, evI, evD, out_then, out_nx, out_rt, ev_bind, ev_pure, ev_ofOpt, ev_noExc, ev_alloc, ev_need, ev_ite', List.map, List.replicate, List.length, List.cons_append, List.nil_append, envGet, envSet, envDels, envDel, Option.some.injEq, exists_eq_left', Lit.val])
    rw [ev_eqI, ev_tb]
    by_cases h0 : s = 0
    · rw [decide_eq_true h0, if_pos (by rfl), if_pos h0, out_seq]
      (simp only [evTs, evT, seqOf, evSs, evS, evE, evEs, evO, evK, evI, evD, out_then, out_nx, out_rt, ev_bind, ev_pure, ev_ofOpt, ev_noExc, ev_alloc, ev_need, ev_ite', List.map, List.replicate, List.length, List.cons_append, List.nil_append, envGet, envSet, envDels, envDel, Option.some.injEq, exists_eq_left', Lit.val])
      refine ⟨by first | rfl | trivial, ?_⟩
      rw [out_seq]
      (simp only [evTs, evT, seqOf, evSs, evS, evE, evEs, evO, evK, evI, evD, out_then, out_nx, out_rt, ev_bind, ev_pure, ev_ofOpt, ev_noExc, ev_alloc, ev_need, ev_ite', List.map, List.replicate, List.length, List.cons_append, List.nil_append, envGet, envSet, envDels, envDel, Option.some.injEq, exists_eq_left', Lit.val])
      refine (lowest2_ok (k := k + 1) fb (Nat.lt_of_le_of_lt (show b.natAbs ≤ 2 ^ 45 by omega) (by decide))).imp fun v S3 q' => ?_
      have hv := q'.1
      have o3 := q'.2
      clear q'
      subst hv
      refine ⟨by first | rfl | trivial, ?_⟩
      rw [ev_catT (by simp [sizeMax]), ev_catT (by simp [sizeMax])]
      subst h0
      exact ⟨rfl, ((o1.trans o2).trans o3).sweep⟩
    · rw [decide_eq_false h0, if_neg (by simp), if_neg h0]
      (simp only [evTs, evT, seqOf, evSs, evS, evE, evEs, evO, evK, evI, evD, out_then, out_nx, out_rt, ev_bind, ev_pure, ev_ofOpt, ev_noExc, ev_alloc, ev_need, ev_ite', List.map, List.replicate, List.length, List.cons_append, List.nil_append, envGet, envSet, envDels, envDel, Option.some.injEq, exists_eq_left', Lit.val])
      rw [out_seq]
      (simp only [evTs, evT, seqOf, evSs, evS, evE, evEs, evO, evK, evI, evD, out_then, out_nx, out_rt, ev_bind, ev_pure, ev_ofOpt, ev_noExc, ev_alloc, ev_need, ev_ite', List.map, List.replicate, List.length, List.cons_append, List.nil_append, envGet, envSet, envDels, envDel, Option.some.injEq, exists_eq_left', Lit.val])
      refine (lowest2_ok (k := k + 1) fb (Nat.lt_of_le_of_lt (show b.natAbs ≤ 2 ^ 45 by omega) (by decide))).imp fun v S3 q' => ?_
      have hv := q'.1
      have o3 := q'.2
      clear q'
      subst hv
      refine ⟨by first | rfl | trivial, ?_⟩
      rw [ev_catT (by simp [sizeMax]), ev_catT (by simp [sizeMax])]
      exact ⟨rfl, ((o1.trans o2).trans o3).sweep⟩
end K00

namespace K00
open PySem L2 Pd
open scoped Classical
variable {fu : Nat} [Big fu]
/-! ### an Exact made -/
theorem lim_of {n : Nat} (h : n ≤ 2 ^ 60) : n < 2 ^ 900 := Nat.lt_of_le_of_lt h (Nat.pow_lt_pow_right (by decide) (by decide))
def nmsF : List Str := ["top", "bottom", "sign", "over", "under"]
def noEx : Exn := ⟨2, []⟩
theorem ev_setF {S : Store} {Q : Unit → Store → Prop} {i : Nat} {fs : List (Str × Val)} {f : Str} {v : Val} (h : S[i]? = some (.obj 0 fs)) (hz : fs.length < 1000) (hf : nmsF.contains f = true) : Ev (setF T.cnames (.ref i) f v S) Q = Q () (S.set i (.obj 0 (putN f v fs))) := by
  unfold setF
  dsimp only
  rw [h]
  dsimp only
  rw [if_pos (by rw [Bool.and_eq_true, decide_eq_true_eq]; exact ⟨hz, hf⟩)]
  rfl
theorem same_take {S S' : Store} (hl : S.length ≤ S'.length) (h : ∀ j, j < S.length → S'[j]? = S[j]?) : S'.take S.length = S := by
  refine List.ext_getElem? fun j => ?_
  rw [List.getElem?_take]
  split
  · rename_i hj
    exact h j hj
  · rw [List.getElem?_eq_none (by omega)]
/-- what __init__ leaves -/
def Init (S S' : Store) (x : T5) : Prop := S.length ≤ S'.length ∧ S'[S.length]? = some (.obj 0 (nmsF.zip (F5 x))) ∧ ∀ j, j < S.length → S'[j]? = S[j]?
/-- all but one thing stay -/
def Upd (n : Nat) (S F : Store) : Prop := F.length = S.length ∧ ∀ j, j ≠ n → F[j]? = S[j]?
theorem Upd.one {n : Nat} {S : Store} {c : Cell} : Upd n S (S.set n c) := ⟨by simp, fun j hj => List.getElem?_set_ne (Ne.symm hj)⟩
theorem Upd.trans {n : Nat} {S F G : Store} (a : Upd n S F) (b : Upd n F G) : Upd n S G := ⟨b.1.trans a.1, fun j hj => (b.2 j hj).trans (a.2 j hj)⟩
theorem putN_new {f : Str} {v : Val} : ∀ {fs : List (Str × Val)}, (fs.map (·.1)).contains f = false → putN f v fs = fs ++ [(f, v)]
  | [], _ => rfl
  | (g, u) :: r, h => by
    simp only [List.map_cons, List.contains_cons, Bool.or_eq_false_iff] at h
    unfold putN
    rw [if_neg (fun e => by rw [e] at h; simp at h), putN_new h.2]
    rfl
theorem Upd.refl (n : Nat) (S : Store) : Upd n S S := ⟨rfl, fun _ _ => rfl⟩
theorem setF_step {n : Nat} {S0 F : Store} {fs : List (Str × Val)} {f : Str} {v : Val} {Q : Unit → Store → Prop} (u : Upd n S0 F) (e : F[n]? = some (.obj 0 fs)) (hz : fs.length < 1000) (hk : (fs.map (·.1)).contains f = false) (hf : nmsF.contains f = true) (q : ∀ G, Upd n S0 G → G[n]? = some (.obj 0 (fs ++ [(f, v)])) → Q () G) : Ev (setF T.cnames (.ref n) f v F) Q := by
  rw [ev_setF e hz hf, putN_new hk]
  exact q _ (u.trans Upd.one) (set_at e)
theorem sets_ok {S S0 S6 F : Store} {x : T5} (hl0 : S0.length = S.length + 1) (oS : Old S S0) (o : Old S0 S6) (u : Upd S.length S6 F) (e : F[S.length]? = some (.obj 0 (nmsF.zip (F5 x)))) : Init S (swept S0.length .non F) x := by
  have h1 := o.1
  have h2 := u.1
  refine ⟨?_, ?_, fun j hj => ?_⟩
  · have := swept_le (n := S0.length) (v := .non) (S := F) (by omega)
    omega
  · rw [swept_at (by omega)]
    exact e
  · rw [swept_at (by omega), u.2 j (by omega), o.2 j (by omega), oS.2 j hj]
/-- five right numbers, their form -/
def RightV (va vb vc vd ve : Val) (x : T5) : Prop := ∃ t b s o u : Int, va = .int t ∧ vb = .int b ∧ vc = .int s ∧ vd = .int o ∧ ve = .int u ∧ Five t b s o u ∧ Bd t b o u ∧ form t b s o u = x
theorem RightV.r {va vb vc vd ve : Val} {x : T5} (R : RightV va vb vc vd ve x) : rightB va vb vc vd ve = true := by
  obtain ⟨t, b, s, o, u, rfl, rfl, rfl, rfl, rfl, F, _⟩ := R
  exact five_right F
theorem tail_ok {k : Nat} {S S0 S4 : Store} {env : Pd.Env} {R : Val → Store → Prop} {s' p0 p1 q0 q1 : Int} (hl0 : S0.length = S.length + 1) (oS : Old S S0) (e0 : S0[S.length]? = some (.obj 0 [])) (o4 : Old S0 S4) (h0 : envGet env 0 = some (.ref S.length)) (h3 : envGet env 3 = some (.int s')) (h7 : envGet env 7 = some (.tup [.int p0, .int p1])) (h8 : envGet env 8 = some (.tup [.int q0, .int q1])) (hp : 0 < p1) (hp2 : p1.natAbs < 2 ^ 900) :
    Out (evSs (T.C fu (k + 2)) fu (.cons (.fld2 (.var 0) "top" "bottom" (.call 1 (.cons (.idx (.var 7) (.lit (.int 0))) (.cons (.idx (.var 7) (.lit (.int 1))) .nil)))) (.cons (.fld (.var 0) "sign" (.var 3)) (.cons (.fld2 (.var 0) "over" "under" (.var 8)) .nil))) env S4)
      (fun _ S' => Init S (swept S0.length Val.non S') ((lo p0 p1).1, (lo p0 p1).2, s', q0, q1)) R := by
  simp only [evSs, evS, evE, evEs, out_then, out_nx, ev_bind, ev_pure, ev_ofOpt, h0, h3, h7, h8, Option.some.injEq, exists_eq_left', Lit.val]
  rw [out_seq, out_then]
  simp only [ev_bind, ev_pure, ev_ofOpt, h0, h3, h7, h8, Option.some.injEq, exists_eq_left', Lit.val]
  rw [ev_idxT (show L2.atI _ 0 = some _ from at_zero), ev_idxT (show L2.atI _ 1 = some _ from at_pair)]
  refine (lowest_ok (k := k + 1) hp hp2).imp fun v S5 q => ?_
  have hv := q.1
  have o := q.2
  clear q
  subst hv
  have o5 := o4.trans o
  have e5 := o5.at e0
  dsimp only
  rw [out_then, ev_ofOpt]
  refine ⟨_, rfl, ?_⟩
  rw [out_then]
  refine setF_step (Upd.refl _ _) e5 (by simp) (by rfl) (by decide) fun S6 u6 e6 => ?_
  simp only [out_then, ev_ofOpt, Option.some.injEq, exists_eq_left']
  refine setF_step u6 e6 (by simp) (by rfl) (by decide) fun S7 u7 e7 => ?_
  rw [out_nx, out_seq]
  simp only [out_then, ev_ofOpt, h0, h3, h8, Option.some.injEq, exists_eq_left']
  refine setF_step u7 e7 (by simp) (by rfl) (by decide) fun S8 u8 e8 => ?_
  rw [out_nx, out_seq]
  simp only [out_then, ev_ofOpt, h0, h3, h8, Option.some.injEq, exists_eq_left']
  refine setF_step u8 e8 (by simp) (by rfl) (by decide) fun S9 u9 e9 => ?_
  refine setF_step u9 e9 (by simp) (by rfl) (by decide) fun S10 u10 e10 => ?_
  rw [out_nx, out_nx]
  exact sets_ok hl0 oS o5 u10 e10
theorem init_ok {k : Nat} {S : Store} {va vb vc vd ve : Val} {z : T5} (R : RightV va vb vc vd ve z) : Ev (callF T fu (k + 3) 23 [.ref S.length, va, vb, vc, vd, ve] (S ++ [.obj 0 []])) fun v S' => v = .non ∧ Init S S' z := by
  have e0 : (S ++ [Cell.obj 0 []])[S.length]? = some (.obj 0 []) := snoc_new
  have oS : Old S (S ++ [Cell.obj 0 []]) := Old.snoc
  have hl0 : (S ++ [Cell.obj 0 []]).length = S.length + 1 := by simp
  generalize S ++ [Cell.obj 0 []] = S0 at e0 oS hl0 ⊢
  (refine ev_call (d := f23) rfl rfl ?_; simp only [f23, evTs, evT, seqOf, evSs, evS, evE, evEs, evO, evK, evI, evD, out_then, out_nx, out_rt, ev_bind, ev_pure, ev_ofOpt, ev_noExc, ev_alloc, ev_need, ev_ite', List.map, List.replicate, List.length, List.cons_append, List.nil_append, envGet, envSet, envDels, envDel, Option.some.injEq, exists_eq_left', Lit.val])
  rw [out_seq]
  (simp only [evTs, evT, seqOf, evSs, evS, evE, evEs, evO, evK, evI, evD, out_then, out_nx, out_rt, ev_bind, ev_pure, ev_ofOpt, ev_noExc, ev_alloc, ev_need, ev_ite', List.map, List.replicate, List.length, List.cons_append, List.nil_append, envGet, envSet, envDels, envDel, Option.some.injEq, exists_eq_left', Lit.val])
  refine (are_right_ok (k := k)).imp fun v S1 q => ?_
  have hv := q.1
  have o1 := q.2
  clear q
  rw [R.r] at hv
  subst hv
  rw [ev_tb, ev_tb, Bool.not_true, if_neg (by simp)]
  obtain ⟨t, b, s, o, u, rfl, rfl, rfl, rfl, rfl, F, B, hf⟩ := R
  have fb := F.b
  have fs := F.s
  have bt := B.t
  have bb := B.b
  have bu := B.u
  have fu0 := F.u
  (simp only [evTs, evT, seqOf, evSs, evS, evE, evEs, evO, evK, evI, evD, out_then, out_nx, out_rt, ev_bind, ev_pure, ev_ofOpt, ev_noExc, ev_alloc, ev_need, ev_ite', List.map, List.replicate, List.length, List.cons_append, List.nil_append, envGet, envSet, envDels, envDel, Option.some.injEq, exists_eq_left', Lit.val])
  rw [out_seq]
  (simp only [evTs, evT, seqOf, evSs, evS, evE, evEs, evO, evK, evI, evD, out_then, out_nx, out_rt, ev_bind, ev_pure, ev_ofOpt, ev_noExc, ev_alloc, ev_need, ev_ite', List.map, List.replicate, List.length, List.cons_append, List.nil_append, envGet, envSet, envDels, envDel, Option.some.injEq, exists_eq_left', Lit.val])
  refine ⟨by first | rfl | trivial, ?_⟩
  refine (lowest_ok (k := k + 1) F.u (lim_of (by omega))).imp fun v S2 q => ?_
  have hv := q.1
  have o2 := q.2
  clear q
  subst hv
  obtain ⟨x, y, hlo, hx, hy, hy0⟩ := lo_nat F B
  unfold form at hf
  rw [hlo] at hf
  rw [hlo, out_seq]
  (simp only [evTs, evT, seqOf, evSs, evS, evE, evEs, evO, evK, evI, evD, out_then, out_nx, out_rt, ev_bind, ev_pure, ev_ofOpt, ev_noExc, ev_alloc, ev_need, ev_ite', List.map, List.replicate, List.length, List.cons_append, List.nil_append, envGet, envSet, envDels, envDel, Option.some.injEq, exists_eq_left', Lit.val])
  rw [ev_idxT (show L2.atI _ 0 = some _ from at_zero), ev_idxT (show L2.atI _ 1 = some _ from at_pair)]
  refine (root_of_ok (k := k) hx hy).imp fun v S3 q => ?_
  have hv := q.1
  have o3 := q.2
  clear q
  subst hv
  have o13 := o1.trans (o2.trans o3)
  rw [out_seq]
  (simp only [evTs, evT, seqOf, evSs, evS, evE, evEs, evO, evK, evI, evD, out_then, out_nx, out_rt, ev_bind, ev_pure, ev_ofOpt, ev_noExc, ev_alloc, ev_need, ev_ite', List.map, List.replicate, List.length, List.cons_append, List.nil_append, envGet, envSet, envDels, envDel, Option.some.injEq, exists_eq_left', Lit.val])
  unfold rtV
  cases hr : rt ((x : Int), (y : Int)) with
  | some q =>
    obtain ⟨g1, g2, g3, g4⟩ := rt_small hx hy hy0 hr
    rw [hr] at hf
    dsimp only at hf ⊢
    have m2 := mul_le (show s.natAbs ≤ 1 by omega) (show q.1.natAbs ≤ 1024 by omega)
    rw [ev_notT, ev_tb, if_pos (by rfl), out_seq]
    (simp only [evTs, evT, seqOf, evSs, evS, evE, evEs, evO, evK, evI, evD, out_then, out_nx, out_rt, ev_bind, ev_pure, ev_ofOpt, ev_noExc, ev_alloc, ev_need, ev_ite', List.map, List.replicate, List.length, List.cons_append, List.nil_append, envGet, envSet, envDels, envDel, Option.some.injEq, exists_eq_left', Lit.val])
    rw [ev_idxT (show L2.atI _ 0 = some _ from at_zero), ev_mul (small_fits (.inr (by omega))), ev_idxT (show L2.atI _ 1 = some _ from at_pair)]
    refine ⟨by first | rfl | trivial, ?_⟩
    refine (sum_of_ok (k := k) fb g3 (by omega) (by omega) (by omega) (by omega)).imp fun v S4 q' => ?_
    have hv := q'.1
    have o4 := q'.2
    clear q'
    subst hv
    rw [out_seq]
    (simp only [evTs, evT, seqOf, evSs, evS, evE, evEs, evO, evK, evI, evD, out_then, out_nx, out_rt, ev_bind, ev_pure, ev_ofOpt, ev_noExc, ev_alloc, ev_need, ev_ite', List.map, List.replicate, List.length, List.cons_append, List.nil_append, envGet, envSet, envDels, envDel, Option.some.injEq, exists_eq_left', Lit.val])
    rw [ev_notT, ev_tb, if_pos (by rfl), ev_tb, if_pos (by rfl), out_seq]
    (simp only [evTs, evT, seqOf, evSs, evS, evE, evEs, evO, evK, evI, evD, out_then, out_nx, out_rt, ev_bind, ev_pure, ev_ofOpt, ev_noExc, ev_alloc, ev_need, ev_ite', List.map, List.replicate, List.length, List.cons_append, List.nil_append, envGet, envSet, envDels, envDel, Option.some.injEq, exists_eq_left', Lit.val])
    refine ⟨by first | rfl | trivial, by first | rfl | trivial, ?_⟩
    have p0 := Int.mul_pos fb g3
    obtain ⟨w1, w2⟩ := lo_two (a := t * q.2 + s * q.1 * b) p0
    obtain ⟨_, w3, _⟩ := lo_abs (a := t * q.2 + s * q.1 * b) p0
    have m4 := mul_le (show b.natAbs ≤ 2 ^ 45 by omega) (show q.2.natAbs ≤ 1024 by omega)
    have A := tail_ok (fu := fu) (k := k) (env := [some (.ref S.length), some (.int t), some (.int b), some (.int 0), some (.int o), some (.int u), some (.tup [.int q.1, .int q.2]), some (.tup [.int (lo (t * q.2 + s * q.1 * b) (b * q.2)).1, .int (lo (t * q.2 + s * q.1 * b) (b * q.2)).2]), some (.tup [.int 0, .int 1])]) (R := fun v S' => v = Val.non ∧ Init S (swept S0.length v S') z) hl0 oS e0 (o13.trans o4) rfl rfl rfl rfl w1 (lim_of (by omega))
    simp only [evTs, evT, seqOf, evSs, evS, evE, evEs, evO, evK, evI, evD, out_then, out_nx, out_rt, ev_bind, ev_pure, ev_ofOpt, ev_noExc, ev_alloc, ev_need, ev_ite', List.map, List.replicate, List.length, List.cons_append, List.nil_append, envGet, envSet, envDels, envDel, Option.some.injEq, exists_eq_left', Lit.val] at A
    refine A.imp (fun _ S' h => ?_) (fun _ _ h => h)
    rw [lo_red w2, hf] at h
    exact ⟨trivial, h⟩
  | none =>
    rw [hr] at hf
    dsimp only at hf ⊢
    rw [ev_notN, ev_tb, if_neg (by simp)]
    (simp only [evTs, evT, seqOf, evSs, evS, evE, evEs, evO, evK, evI, evD, out_then, out_nx, out_rt, ev_bind, ev_pure, ev_ofOpt, ev_noExc, ev_alloc, ev_need, ev_ite', List.map, List.replicate, List.length, List.cons_append, List.nil_append, envGet, envSet, envDels, envDel, Option.some.injEq, exists_eq_left', Lit.val])
    rw [out_seq]
    (simp only [evTs, evT, seqOf, evSs, evS, evE, evEs, evO, evK, evI, evD, out_then, out_nx, out_rt, ev_bind, ev_pure, ev_ofOpt, ev_noExc, ev_alloc, ev_need, ev_ite', List.map, List.replicate, List.length, List.cons_append, List.nil_append, envGet, envSet, envDels, envDel, Option.some.injEq, exists_eq_left', Lit.val])
    rw [ev_notN, ev_tb, if_neg (by simp), ev_eqI, ev_tb]
    by_cases h0 : s = 0
    · rw [if_pos h0] at hf
      rw [decide_eq_true h0, if_pos (by rfl), out_seq]
      (simp only [evTs, evT, seqOf, evSs, evS, evE, evEs, evO, evK, evI, evD, out_then, out_nx, out_rt, ev_bind, ev_pure, ev_ofOpt, ev_noExc, ev_alloc, ev_need, ev_ite', List.map, List.replicate, List.length, List.cons_append, List.nil_append, envGet, envSet, envDels, envDel, Option.some.injEq, exists_eq_left', Lit.val])
      refine ⟨by first | rfl | trivial, by first | rfl | trivial, ?_⟩
      have A := tail_ok (fu := fu) (k := k) (env := [some (.ref S.length), some (.int t), some (.int b), some (.int 0), some (.int o), some (.int u), some .non, some (.tup [.int t, .int b]), some (.tup [.int 0, .int 1])]) (R := fun v S' => v = Val.non ∧ Init S (swept S0.length v S') z) hl0 oS e0 o13 rfl rfl rfl rfl fb (lim_of (by omega))
      simp only [evTs, evT, seqOf, evSs, evS, evE, evEs, evO, evK, evI, evD, out_then, out_nx, out_rt, ev_bind, ev_pure, ev_ofOpt, ev_noExc, ev_alloc, ev_need, ev_ite', List.map, List.replicate, List.length, List.cons_append, List.nil_append, envGet, envSet, envDels, envDel, Option.some.injEq, exists_eq_left', Lit.val] at A
      refine A.imp (fun _ S' h => ?_) (fun _ _ h => h)
      rw [hf] at h
      exact ⟨trivial, h⟩
    · rw [if_neg h0] at hf
      rw [decide_eq_false h0, if_neg (by simp)]
      (simp only [evTs, evT, seqOf, evSs, evS, evE, evEs, evO, evK, evI, evD, out_then, out_nx, out_rt, ev_bind, ev_pure, ev_ofOpt, ev_noExc, ev_alloc, ev_need, ev_ite', List.map, List.replicate, List.length, List.cons_append, List.nil_append, envGet, envSet, envDels, envDel, Option.some.injEq, exists_eq_left', Lit.val])
      have A := tail_ok (fu := fu) (k := k) (env := [some (.ref S.length), some (.int t), some (.int b), some (.int s), some (.int o), some (.int u), some .non, some (.tup [.int t, .int b]), some (.tup [.int x, .int y])]) (R := fun v S' => v = Val.non ∧ Init S (swept S0.length v S') z) hl0 oS e0 o13 rfl rfl rfl rfl fb (lim_of (by omega))
      simp only [evTs, evT, seqOf, evSs, evS, evE, evEs, evO, evK, evI, evD, out_then, out_nx, out_rt, ev_bind, ev_pure, ev_ofOpt, ev_noExc, ev_alloc, ev_need, ev_ite', List.map, List.replicate, List.length, List.cons_append, List.nil_append, envGet, envSet, envDels, envDel, Option.some.injEq, exists_eq_left', Lit.val] at A
      refine A.imp (fun _ S' h => ?_) (fun _ _ h => h)
      rw [hf] at h
      exact ⟨trivial, h⟩
end K00

namespace K00
open PySem L2 Pd
open scoped Classical
variable {fu : Nat} [Big fu]
theorem at_2 {a b c : Val} {r : List Val} : L2.atI (a :: b :: c :: r) 2 = some c := by
  unfold L2.atI L2.ixN
  rw [if_pos (by decide), if_pos (by simp; omega)]
  rfl
theorem at_3 {a b c d : Val} {r : List Val} : L2.atI (a :: b :: c :: d :: r) 3 = some d := by
  unfold L2.atI L2.ixN
  rw [if_pos (by decide), if_pos (by simp; omega)]
  rfl
theorem at_4 {a b c d e : Val} {r : List Val} : L2.atI (a :: b :: c :: d :: e :: r) 4 = some e := by
  unfold L2.atI L2.ixN
  rw [if_pos (by decide), if_pos (by simp; omega)]
  rfl
theorem refs_F5 (n : Nat) (z : T5) : refsLtL n (F5 z) = true := rfl
theorem snd_zip (z : T5) : (nmsF.zip (F5 z)).map (·.2) = F5 z := rfl
theorem fst_zip (z : T5) : (nmsF.zip (F5 z)).map (·.1) = nmsF := rfl
theorem mk_ok {k : Nat} {S : Store} {va vb vc vd ve : Val} {z : T5} (R : RightV va vb vc vd ve z) : Ev (mkV T.cs (callF T fu (k + 3)) 0 [va, vb, vc, vd, ve] S) fun v S' => v = .ins 0 (F5 z) ∧ S' = S := by
  obtain ⟨v, S', e, rfl, h1, h2, h3⟩ := (init_ok (fu := fu) (k := k) (S := S) R).get
  have hc : T.cs[0]? = some ⟨"Exact", 23, nmsF⟩ := rfl
  unfold mkV
  rw [hc]
  dsimp only
  rw [e]
  dsimp only
  unfold froze
  rw [h2]
  dsimp only
  rw [fst_zip, snd_zip, refs_F5, same_take h1 h3, sEq_rfl, decide_eq_true rfl, decide_eq_true rfl]
  exact ⟨rfl, rfl⟩
theorem init_bad {k : Nat} {S : Store} {i : Nat} {va vb vc vd ve : Val} (h : rightB va vb vc vd ve = false) : EvX (callF T fu (k + 3) 23 [.ref i, va, vb, vc, vd, ve] S) (fun _ _ => False) fun e S' => e = noEx ∧ Old S S' := by
  refine evx_call (d := f23) rfl rfl ?_
  simp only [f23, evSs, evS]
  rw [outx_seq]
  refine outx_then ?_
  (simp only [evTs, evT, seqOf, evSs, evS, evE, evEs, evO, evK, evI, evD, out_then, out_nx, out_rt, ev_bind, ev_pure, ev_ofOpt, ev_noExc, ev_alloc, ev_need, ev_ite', List.map, List.replicate, List.length, List.cons_append, List.nil_append, envGet, envSet, envDels, envDel, Option.some.injEq, exists_eq_left', Lit.val])
  refine (are_right_ok (k := k)).imp fun v S1 q => ?_
  have hv := q.1
  have o1 := q.2
  clear q
  rw [h] at hv
  subst hv
  rw [ev_tb]
  refine outx_then ?_
  rw [ev_tb, Bool.not_false, if_pos (by rfl), outx_seq]
  rw [show ownX T.xs 2 = true from rfl, if_pos rfl]
  refine outx_then ?_
  (simp only [evTs, evT, seqOf, evSs, evS, evE, evEs, evO, evK, evI, evD, out_then, out_nx, out_rt, ev_bind, ev_pure, ev_ofOpt, ev_noExc, ev_alloc, ev_need, ev_ite', List.map, List.replicate, List.length, List.cons_append, List.nil_append, envGet, envSet, envDels, envDel, Option.some.injEq, exists_eq_left', Lit.val])
  exact ⟨rfl, o1⟩
theorem mk_bad {k : Nat} {S : Store} {va vb vc vd ve : Val} (h : rightB va vb vc vd ve = false) : EvX (mkV T.cs (callF T fu (k + 3)) 0 [va, vb, vc, vd, ve] S) (fun _ _ => False) fun e S' => e = noEx ∧ Old S S' := by
  have hc : T.cs[0]? = some ⟨"Exact", 23, nmsF⟩ := rfl
  unfold mkV
  rw [hc]
  dsimp only
  have h1 := init_bad (fu := fu) (k := k) (S := S ++ [.obj 0 []]) (i := S.length) h
  revert h1
  generalize callF T fu (k + 3) 23 [.ref S.length, va, vb, vc, vd, ve] (S ++ [.obj 0 []]) = r
  intro h1
  cases r with
  | ok a S' => exact h1.elim
  | exc x S' => exact ⟨h1.1, Old.snoc.trans h1.2⟩
  | bad => exact h1.elim
theorem made_ok {k : Nat} {S : Store} {va vb vc vd ve : Val} {z : T5} (R : RightV va vb vc vd ve z) : Ev (callF T fu (k + 4) 14 [.tup [va, vb, vc, vd, ve]] S) fun v S' => v = .ins 0 (F5 z) ∧ Old S S' := by
  (refine ev_call (d := f14) rfl rfl ?_; simp only [f14, evTs, evT, seqOf, evSs, evS, evE, evEs, evO, evK, evI, evD, out_then, out_nx, out_rt, ev_bind, ev_pure, ev_ofOpt, ev_noExc, ev_alloc, ev_need, ev_ite', List.map, List.replicate, List.length, List.cons_append, List.nil_append, envGet, envSet, envDels, envDel, Option.some.injEq, exists_eq_left', Lit.val])
  rw [out_seq]
  (simp only [evTs, evT, seqOf, evSs, evS, evE, evEs, evO, evK, evI, evD, out_then, out_nx, out_rt, ev_bind, ev_pure, ev_ofOpt, ev_noExc, ev_alloc, ev_need, ev_ite', List.map, List.replicate, List.length, List.cons_append, List.nil_append, envGet, envSet, envDels, envDel, Option.some.injEq, exists_eq_left', Lit.val])
  rw [ev_idxT (show L2.atI _ 0 = some _ from at_zero), ev_idxT (show L2.atI _ 1 = some _ from at_pair), ev_idxT (show L2.atI _ 2 = some _ from at_2), ev_idxT (show L2.atI _ 3 = some _ from at_3), ev_idxT (show L2.atI _ 4 = some _ from at_4)]
  refine ⟨_, rfl, ?_⟩
  refine (mk_ok (k := k) R).imp fun v S' q => ?_
  have hv := q.1
  have hs := q.2
  clear q
  subst hv
  subst hs
  exact ⟨rfl, (Old.refl _).sweep⟩
theorem made_bad {k : Nat} {S : Store} {va vb vc vd ve : Val} (h : rightB va vb vc vd ve = false) : EvX (callF T fu (k + 4) 14 [.tup [va, vb, vc, vd, ve]] S) (fun _ _ => False) fun e S' => e = noEx ∧ Old S S' := by
  refine evx_call (d := f14) rfl rfl ?_
  simp only [f14, evSs, evS]
  rw [outx_seq]
  refine outx_thenX ?_
  simp only [evE, evEs, evx_bind, evx_pure, evx_ofOpt, envGet, envSet, List.map, List.cons_append, List.nil_append, List.replicate, Option.some.injEq, exists_eq_left', Lit.val]
  have ix : ∀ {i : Int} {v : Val} {Q : Val → Store → Prop} {Y : Exn → Store → Prop}, L2.atI [va, vb, vc, vd, ve] i = some v → Q v S → EvX (idxV (.tup [va, vb, vc, vd, ve]) (.int i) S) Q Y := fun h1 h2 => evx_ok (by rw [ev_idxT h1]; exact h2)
  refine ix at_zero (ix at_pair (ix at_2 (ix at_3 (ix at_4 ⟨_, rfl, ?_⟩))))
  exact (mk_bad (k := k) h).imp (fun _ _ h => h.elim) (fun _ _ h => h)
theorem ev_fld5 {S : Store} {Q : Val → Store → Prop} {l : List Val} {v : Val} {f : Str} (hv : (nmsF.zip l).lookup f = some v) : Ev (fldV (.ins 0 l) f T.cnames S) Q = Q v S := by
  unfold fldV
  dsimp only
  rw [show T.cnames 0 = nmsF from rfl, hv]
  rfl
theorem fields_ok {k : Nat} {S : Store} {a b c d e : Val} : Ev (callF T fu (k + 1) 15 [.ins 0 [a, b, c, d, e]] S) fun v S' => v = .tup [a, b, c, d, e] ∧ Old S S' := by
  (refine ev_call (d := f15) rfl rfl ?_; simp only [f15, evTs, evT, seqOf, evSs, evS, evE, evEs, evO, evK, evI, evD, out_then, out_nx, out_rt, ev_bind, ev_pure, ev_ofOpt, ev_noExc, ev_alloc, ev_need, ev_ite', List.map, List.replicate, List.length, List.cons_append, List.nil_append, envGet, envSet, envDels, envDel, Option.some.injEq, exists_eq_left', Lit.val])
  rw [out_seq]
  (simp only [evTs, evT, seqOf, evSs, evS, evE, evEs, evO, evK, evI, evD, out_then, out_nx, out_rt, ev_bind, ev_pure, ev_ofOpt, ev_noExc, ev_alloc, ev_need, ev_ite', List.map, List.replicate, List.length, List.cons_append, List.nil_append, envGet, envSet, envDels, envDel, Option.some.injEq, exists_eq_left', Lit.val])
  rw [ev_fld5 rfl, ev_fld5 rfl, ev_fld5 rfl, ev_fld5 rfl, ev_fld5 rfl]
  exact ⟨by first | rfl | trivial, by first | rfl | trivial, (Old.refl _).sweep⟩
theorem form_sm {t b s o u : Int} (F : Five t b s o u) (ht : t.natAbs ≤ 2 ^ 20) (hb : b ≤ 2 ^ 20) (ho : o ≤ 2 ^ 20) (hu : u ≤ 2 ^ 20) {t' b' s' o' u' : Int} (e : form t b s o u = (t', b', s', o', u')) : t'.natAbs ≤ 2 ^ 31 ∧ b' ≤ 2 ^ 31 ∧ o' ≤ 2 ^ 20 ∧ u' ≤ 2 ^ 20 := by
  obtain ⟨x, y, hlo, hx, hy, hy0⟩ := lo_nat F ⟨by omega, by omega, ho, hu⟩
  obtain ⟨c1, c2, _⟩ := lo_abs (a := t) F.b
  have fs := F.s
  have fb := F.b
  unfold form at e
  rw [hlo] at e
  cases hr : rt ((x : Int), (y : Int)) with
  | some q =>
    rw [hr] at e
    obtain ⟨g1, g2, g3, g4⟩ := rt_small hx hy hy0 hr
    obtain ⟨d1, d2, _⟩ := lo_abs (a := t * q.2 + s * q.1 * b) (Int.mul_pos F.b g3)
    have m1 := mul_le (show t.natAbs ≤ 2 ^ 20 by omega) (show q.2.natAbs ≤ 1024 by omega)
    have m2 := mul_le (show s.natAbs ≤ 1 by omega) (show q.1.natAbs ≤ 1024 by omega)
    have m3 := mul_le m2 (show b.natAbs ≤ 2 ^ 20 by omega)
    have m4 := mul_le (show b.natAbs ≤ 2 ^ 20 by omega) (show q.2.natAbs ≤ 1024 by omega)
    cases e
    have p4 := Int.natAbs_add_le (t * q.2) (s * q.1 * b)
    exact ⟨by omega, by omega, by decide, by decide⟩
  | none =>
    rw [hr] at e
    dsimp only at e
    split at e
    · cases e
      exact ⟨by omega, by omega, by decide, by decide⟩
    · cases e
      exact ⟨by omega, by omega, by omega, by omega⟩
/-- five numbers as the law has them -/
structure Org (x : T5) : Prop where
  f : Five x.1 x.2.1 x.2.2.1 x.2.2.2.1 x.2.2.2.2
  t : x.1.natAbs ≤ 2 ^ 20
  b : x.2.1 ≤ 2 ^ 20
  o : x.2.2.2.1 ≤ 2 ^ 20
  u : x.2.2.2.2 ≤ 2 ^ 20
/-- five numbers in their form -/
structure Due (x : T5) : Prop where
  f : Five x.1 x.2.1 x.2.2.1 x.2.2.2.1 x.2.2.2.2
  t : x.1.natAbs ≤ 2 ^ 31
  b : x.2.1 ≤ 2 ^ 31
  o : x.2.2.2.1 ≤ 2 ^ 20
  u : x.2.2.2.2 ≤ 2 ^ 20
  e : form x.1 x.2.1 x.2.2.1 x.2.2.2.1 x.2.2.2.2 = x
def fm (x : T5) : T5 := form x.1 x.2.1 x.2.2.1 x.2.2.2.1 x.2.2.2.2
theorem Org.due {x : T5} (O : Org x) : Due (fm x) := by
  have h : fm x = ((fm x).1, (fm x).2.1, (fm x).2.2.1, (fm x).2.2.2.1, (fm x).2.2.2.2) := rfl
  obtain ⟨a, b⟩ := form_fix O.f h
  obtain ⟨c1, c2, c3, c4⟩ := form_sm O.f O.t O.b O.o O.u h
  exact ⟨a, c1, c2, c3, c4, b⟩
theorem Org.right {x : T5} (O : Org x) : RightV (.int x.1) (.int x.2.1) (.int x.2.2.1) (.int x.2.2.2.1) (.int x.2.2.2.2) (fm x) := ⟨_, _, _, _, _, rfl, rfl, rfl, rfl, rfl, O.f, ⟨by have := O.t; omega, by have := O.b; omega, O.o, O.u⟩, rfl⟩
theorem Due.right {x : T5} (O : Due x) : RightV (.int x.1) (.int x.2.1) (.int x.2.2.1) (.int x.2.2.2.1) (.int x.2.2.2.2) x := ⟨_, _, _, _, _, rfl, rfl, rfl, rfl, rfl, O.f, ⟨by have := O.t; omega, by have := O.b; omega, O.o, O.u⟩, O.e⟩
theorem Due.short {x : T5} (O : Due x) : ∀ v ∈ F5 x, Short v 60 := by
  have h1 := O.t
  have h2 := O.b
  have h3 := O.o
  have h4 := O.u
  have h5 := O.f.b
  have h6 := O.f.u
  have h7 := O.f.o
  have h8 := O.f.s
  intro v hv
  simp only [F5, List.mem_cons, List.not_mem_nil, or_false] at hv
  rcases hv with rfl | rfl | rfl | rfl | rfl <;> exact short_int (by omega)
theorem ev_reprF {S : Store} {Q : Val → Store → Prop} {x : T5} (O : Due x) : Ev (biV .repr [.tup (F5 x)] S) Q = Q (.str (toD (.tup (F5 x))).shown) S := ev_reprT O.short (by show 5 * 61 ≤ 2 ^ 20; omega)
theorem is_ok {k : Nat} {S : Store} {x : T5} (O : Due x) : Ev (callF T fu (k + 2) 16 [.ins 0 (F5 x), .tup (F5 x)] S) fun v S' => v = .bl true ∧ Old S S' := by
  have hr := @ev_reprF
  have hq := fun S => fields_ok (fu := fu) (k := k) (S := S) (a := .int x.1) (b := .int x.2.1) (c := .int x.2.2.1) (d := .int x.2.2.2.1) (e := .int x.2.2.2.2)
  have hr := fun S Q => @ev_reprF S Q x O
  change ∀ S, Ev (callF T fu (k + 1) 15 [.ins 0 (F5 x)] S) fun v S' => v = .tup (F5 x) ∧ Old S S' at hq
  generalize F5 x = l at hq hr ⊢
  (refine ev_call (d := f16) rfl rfl ?_; simp only [f16, evTs, evT, seqOf, evSs, evS, evE, evEs, evO, evK, evI, evD, out_then, out_nx, out_rt, ev_bind, ev_pure, ev_ofOpt, ev_noExc, ev_alloc, ev_need, ev_ite', List.map, List.replicate, List.length, List.cons_append, List.nil_append, envGet, envSet, envDels, envDel, Option.some.injEq, exists_eq_left', Lit.val])
  rw [out_seq]
  (simp only [evTs, evT, seqOf, evSs, evS, evE, evEs, evO, evK, evI, evD, out_then, out_nx, out_rt, ev_bind, ev_pure, ev_ofOpt, ev_noExc, ev_alloc, ev_need, ev_ite', List.map, List.replicate, List.length, List.cons_append, List.nil_append, envGet, envSet, envDels, envDel, Option.some.injEq, exists_eq_left', Lit.val])
  rw [ev_isin, ev_tb, show ([Ty.own 0].any (tyMatch (Pd.tyV S (.ins 0 l)))) = true from rfl, if_pos (by rfl)]
  refine (hq S).imp fun v S1 q => ?_
  have hv := q.1
  have o := q.2
  clear q
  subst hv
  rw [hr, hr, ev_eqS]
  exact ⟨by rw [decide_eq_true rfl], o.sweep⟩
end K00

namespace K00
open PySem L2 Pd
open scoped Classical
variable {fu : Nat} [Big fu]
theorem ev_insert {S : Store} {Q : Val → Store → Prop} {c : Nat} {xs : List Val} {v : Val} (h : S[c]? = some (.lst xs)) (hz : xs.length < sizeMax) : Ev (bmV .insert (.ref c) [.int 0, v] S) Q = Q .non (S.set c (.lst (v :: xs))) := by
  show Ev (insertV c 0 v S) Q = _
  unfold insertV
  rw [h]
  dsimp only
  rw [if_pos (by simp only [Bool.and_eq_true, decide_eq_true_eq]; exact ⟨⟨hz, by decide⟩, by decide⟩)]
  rfl
theorem pop0 {n : Nat} : seqIndex? 0 (n + 1) = some 0 := by
  unfold seqIndex?
  rw [if_pos (by simp only [Bool.and_eq_true, decide_eq_true_eq]; omega)]
  rfl
theorem draw_fin {k : Nat} {S S3 : Store} {d c m : Nat} {most n seed cell : Int} {I : Pd.Env → Store → Prop} (hm : m < 2 ^ 60) (h1 : 1 ≤ most) (e4 : 0 ≤ n) (e5 : n ≤ m) (ne : d ≠ c) (hlt : d < S.length ∧ c < S.length) (q1 : S3[d]? = some (.lst [.ref c, .int seed, .int (n + 1)])) (q2 : ∃ l : List Int, S3[c]? = some (.lst (l.map .int)) ∧ l.length ≤ 100) (F3 : Fr S S3 d c) :
    Out (evSs (T.C fu k) fu (.cons (.set 4 (.bin .mod (.bin .add (.bin .add (.bin .mul (.bin .mod (.var 3) (.lit (.int 2147483629))) (.lit (.int 48271))) (.bin .mul (.lit (.int 6997)) (.idx (.var 0) (.lit (.int 2))))) (.lit (.int 17))) (.lit (.int 2147483647))))
    (.cons (.set 4 (.bin .mod (.bin .add (.bin .add (.bin .mul (.var 4) (.var 4)) (.bin .mul (.lit (.int 69621)) (.var 4))) (.idx (.var 0) (.lit (.int 2)))) (.lit (.int 2147483587))))
    (.cons (.idx (.var 0) (.lit (.int 1)) (.var 4))
    (.cons (.ret (.bin .mod (.bin .fdiv (.bin .mod (.bin .mul (.var 4) (.bin .add (.var 4) (.lit (.int 40692)))) (.lit (.int 2147483563))) (.lit (.int 64))) (.var 1)))
    .nil)))) [some (.ref d), some (.int most), some (.ref c), some (.int cell), none] S3) I fun v S' => ∃ z, v = .int z ∧ 0 ≤ z ∧ z < most ∧ Deck (swept S.length v S') d c (m + 1) ∧ Fr S (swept S.length v S') d c := by
  obtain ⟨l, q2, q3⟩ := q2
  simp only [evSs]
  rw [out_seq]
  (simp only [evTs, evT, seqOf, evSs, evS, evE, evEs, evO, evK, evI, evD, out_then, out_nx, out_rt, ev_bind, ev_pure, ev_ofOpt, ev_noExc, ev_alloc, ev_need, ev_ite', List.map, List.replicate, List.length, List.cons_append, List.nil_append, envGet, envSet, envDels, envDel, Option.some.injEq, exists_eq_left', Lit.val])
  rw [ev_mod (by decide), ev_mul (small_fits (.inr (by decide))), ev_idxL q1 at3_2, ev_mul (small_fits (.inl (by decide))), ev_add, ev_add, ev_mod (by decide)]
  have b1 := fmod_lo (cell.fmod 2147483629 * 48271 + 6997 * (n + 1) + 17) (b := 2147483647) (by decide)
  generalize (cell.fmod 2147483629 * 48271 + 6997 * (n + 1) + 17).fmod 2147483647 = y at b1
  rw [out_seq]
  (simp only [evTs, evT, seqOf, evSs, evS, evE, evEs, evO, evK, evI, evD, out_then, out_nx, out_rt, ev_bind, ev_pure, ev_ofOpt, ev_noExc, ev_alloc, ev_need, ev_ite', List.map, List.replicate, List.length, List.cons_append, List.nil_append, envGet, envSet, envDels, envDel, Option.some.injEq, exists_eq_left', Lit.val])
  rw [ev_mul (small_fits (.inl (by omega))), ev_mul (small_fits (.inl (by decide))), ev_add, ev_idxL q1 at3_2, ev_add, ev_mod (by decide)]
  have b2 := fmod_lo (y * y + 69621 * y + (n + 1)) (b := 2147483587) (by decide)
  generalize (y * y + 69621 * y + (n + 1)).fmod 2147483587 = w at b2
  rw [out_seq]
  (simp only [evTs, evT, seqOf, evSs, evS, evE, evEs, evO, evK, evI, evD, out_then, out_nx, out_rt, ev_bind, ev_pure, ev_ofOpt, ev_noExc, ev_alloc, ev_need, ev_ite', List.map, List.replicate, List.length, List.cons_append, List.nil_append, envGet, envSet, envDels, envDel, Option.some.injEq, exists_eq_left', Lit.val])
  rw [ev_setL (n := 1) q1 rfl, out_seq]
  (simp only [evTs, evT, seqOf, evSs, evS, evE, evEs, evO, evK, evI, evD, out_then, out_nx, out_rt, ev_bind, ev_pure, ev_ofOpt, ev_noExc, ev_alloc, ev_need, ev_ite', List.map, List.replicate, List.length, List.cons_append, List.nil_append, envGet, envSet, envDels, envDel, Option.some.injEq, exists_eq_left', Lit.val])
  rw [ev_add, ev_mul (small_fits (.inl (by omega))), ev_mod (by decide), ev_fdiv (div_fits (by decide) (by decide)), ev_mod (by omega)]
  refine ⟨_, rfl, (fmod_lo _ (by omega)).1, (fmod_lo _ (by omega)).2, Deck.sweep ⟨⟨w, n + 1, l, set_at q1, ?_, q3, by omega, by omega⟩, ne⟩ hlt.1 hlt.2, (F3.trans (Fr.set (.inl rfl))).sweep⟩
  rw [List.getElem?_set_ne ne]
  exact q2
theorem draw_ok {k : Nat} {S : Store} {d c m : Nat} {most : Int} (D : Deck S d c m) (hm : m < 2 ^ 60) (h1 : 1 ≤ most) (h2 : most < 2 ^ 60) : Ev (callF T fu (k + 1) 7 [.ref d, .int most] S) fun v S' => ∃ z, v = .int z ∧ 0 ≤ z ∧ z < most ∧ Deck S' d c (m + 1) ∧ Fr S S' d c := by
  have hlt := D.lt
  obtain ⟨⟨seed, n, cells, e1, e2, e3, e4, e5⟩, ne⟩ := D
  (refine ev_call (d := f7) rfl rfl ?_; simp only [f7, evTs, evT, seqOf, evSs, evS, evE, evEs, evO, evK, evI, evD, out_then, out_nx, out_rt, ev_bind, ev_pure, ev_ofOpt, ev_noExc, ev_alloc, ev_need, ev_ite', List.map, List.replicate, List.length, List.cons_append, List.nil_append, envGet, envSet, envDels, envDel, Option.some.injEq, exists_eq_left', Lit.val])
  rw [out_seq]
  (simp only [evTs, evT, seqOf, evSs, evS, evE, evEs, evO, evK, evI, evD, out_then, out_nx, out_rt, ev_bind, ev_pure, ev_ofOpt, ev_noExc, ev_alloc, ev_need, ev_ite', List.map, List.replicate, List.length, List.cons_append, List.nil_append, envGet, envSet, envDels, envDel, Option.some.injEq, exists_eq_left', Lit.val])
  rw [ev_idxL e1 at3_2, ev_add, ev_setL (n := 2) e1 rfl]
  generalize hS1 : S.set d (.lst ([Val.ref c, .int seed, .int n].set 2 (.int (n + 1)))) = S1
  have g1 : S1[d]? = some (.lst [.ref c, .int seed, .int (n + 1)]) := by rw [← hS1]; exact set_at e1
  have g2 : S1[c]? = some (.lst (cells.map .int)) := by rw [← hS1, List.getElem?_set_ne ne]; exact e2
  have F1 : Fr S S1 d c := by rw [← hS1]; exact Fr.set (.inl rfl)
  rw [out_seq]
  (simp only [evTs, evT, seqOf, evSs, evS, evE, evEs, evO, evK, evI, evD, out_then, out_nx, out_rt, ev_bind, ev_pure, ev_ofOpt, ev_noExc, ev_alloc, ev_need, ev_ite', List.map, List.replicate, List.length, List.cons_append, List.nil_append, envGet, envSet, envDels, envDel, Option.some.injEq, exists_eq_left', Lit.val])
  rw [ev_idxL g1 at3_0, out_seq]
  (simp only [evTs, evT, seqOf, evSs, evS, evE, evEs, evO, evK, evI, evD, out_then, out_nx, out_rt, ev_bind, ev_pure, ev_ofOpt, ev_noExc, ev_alloc, ev_need, ev_ite', List.map, List.replicate, List.length, List.cons_append, List.nil_append, envGet, envSet, envDels, envDel, Option.some.injEq, exists_eq_left', Lit.val])
  rw [ev_idxL g1 at3_1, out_seq]
  (simp only [evTs, evT, seqOf, evSs, evS, evE, evEs, evO, evK, evI, evD, out_then, out_nx, out_rt, ev_bind, ev_pure, ev_ofOpt, ev_noExc, ev_alloc, ev_need, ev_ite', List.map, List.replicate, List.length, List.cons_append, List.nil_append, envGet, envSet, envDels, envDel, Option.some.injEq, exists_eq_left', Lit.val])
  refine ⟨by decide, ?_⟩
  have p1 := snoc_old (x := .lst []) g1
  have p2 := snoc_old (x := .lst []) g2
  have F2 := F1.trans (Fr.snoc (x := .lst []))
  have p3 : (S1 ++ [Cell.lst []])[S1.length]? = some (.lst []) := snoc_new
  generalize hS2 : S1 ++ [Cell.lst []] = S2 at p1 p2 p3 F2
  rw [ev_ne (eq_nil p2 p3 (sims_ints cells).1 (by rw [(sims_ints cells).2]; omega)), ev_tb]
  -- the last steps
  cases hc : cells with
  | nil =>
    subst hc
    have A := draw_fin (fu := fu) (k := k) (cell := seed) (I := fun x S' => ∃ z, Val.non = Val.int z ∧ 0 ≤ z ∧ z < most ∧ Deck (swept (List.length S) Val.non S') d c (m + 1) ∧ Fr S (swept (List.length S) Val.non S') d c) hm h1 e4 e5 ne hlt p1 ⟨[], p2, by simp⟩ F2
    simp only [evTs, evT, seqOf, evSs, evS, evE, evEs, evO, evK, evI, evD, out_then, out_nx, out_rt, ev_bind, ev_pure, ev_ofOpt, ev_noExc, ev_alloc, ev_need, ev_ite', List.map, List.replicate, List.length, List.cons_append, List.nil_append, envGet, envSet, envDels, envDel, Option.some.injEq, exists_eq_left', Lit.val] at A
    simp only [List.map_nil, List.isEmpty_nil, Bool.not_true, Bool.false_eq_true, if_false]
    (simp only [evTs, evT, seqOf, evSs, evS, evE, evEs, evO, evK, evI, evD, out_then, out_nx, out_rt, ev_bind, ev_pure, ev_ofOpt, ev_noExc, ev_alloc, ev_need, ev_ite', List.map, List.replicate, List.length, List.cons_append, List.nil_append, envGet, envSet, envDels, envDel, Option.some.injEq, exists_eq_left', Lit.val])
    exact A
  | cons x L =>
    subst hc
    simp only [List.map_cons, List.isEmpty_cons, Bool.not_false, if_true]
    rw [List.map_cons] at p2
    rw [out_seq]
    (simp only [evTs, evT, seqOf, evSs, evS, evE, evEs, evO, evK, evI, evD, out_then, out_nx, out_rt, ev_bind, ev_pure, ev_ofOpt, ev_noExc, ev_alloc, ev_need, ev_ite', List.map, List.replicate, List.length, List.cons_append, List.nil_append, envGet, envSet, envDels, envDel, Option.some.injEq, exists_eq_left', Lit.val])
    rw [ev_recv (recv_lst rfl p2), ev_popAt (n := 0) p2 (by decide) (by decide) pop0 rfl]
    have r1 : (S2.set c (.lst ((Val.int x :: L.map .int).eraseIdx 0)))[d]? = some (.lst [.ref c, .int seed, .int (n + 1)]) := by rw [List.getElem?_set_ne ne.symm]; exact p1
    have r2 : (S2.set c (.lst ((Val.int x :: L.map .int).eraseIdx 0)))[c]? = some (.lst (L.map .int)) := set_at p2
    have F3 : Fr S (S2.set c (.lst ((Val.int x :: L.map .int).eraseIdx 0))) d c := F2.trans (Fr.set (.inr rfl))
    generalize S2.set c (.lst ((Val.int x :: L.map .int).eraseIdx 0)) = S3 at r1 r2 F3
    rw [List.length_cons] at e3
    rw [out_seq]
    (simp only [evTs, evT, seqOf, evSs, evS, evE, evEs, evO, evK, evI, evD, out_then, out_nx, out_rt, ev_bind, ev_pure, ev_ofOpt, ev_noExc, ev_alloc, ev_need, ev_ite', List.map, List.replicate, List.length, List.cons_append, List.nil_append, envGet, envSet, envDels, envDel, Option.some.injEq, exists_eq_left', Lit.val])
    rw [ev_pow (by decide), ev_ge, ev_tb]
    by_cases big : (10 : Int) ^ (18 : Int).toNat ≤ x
    · rw [decide_eq_true big, if_pos (by rfl), out_seq]
      (simp only [evTs, evT, seqOf, evSs, evS, evE, evEs, evO, evK, evI, evD, out_then, out_nx, out_rt, ev_bind, ev_pure, ev_ofOpt, ev_noExc, ev_alloc, ev_need, ev_ite', List.map, List.replicate, List.length, List.cons_append, List.nil_append, envGet, envSet, envDels, envDel, Option.some.injEq, exists_eq_left', Lit.val])
      rw [ev_recv (recv_lst rfl r2), ev_fdiv (div_fits (by omega) (by
        have : most.natAbs < 2 ^ 60 := by omega
        exact Nat.lt_of_lt_of_le this (Nat.pow_le_pow_right (by decide) (by decide)))), ev_insert r2 (by rw [List.length_map]; show L.length < 16777216; omega), out_seq]
      (simp only [evTs, evT, seqOf, evSs, evS, evE, evEs, evO, evK, evI, evD, out_then, out_nx, out_rt, ev_bind, ev_pure, ev_ofOpt, ev_noExc, ev_alloc, ev_need, ev_ite', List.map, List.replicate, List.length, List.cons_append, List.nil_append, envGet, envSet, envDels, envDel, Option.some.injEq, exists_eq_left', Lit.val])
      rw [ev_mod (by omega)]
      refine ⟨_, rfl, (fmod_lo _ (by omega)).1, (fmod_lo _ (by omega)).2, Deck.sweep ⟨⟨seed, n + 1, x.fdiv most :: L, ?_, ?_, ?_, by omega, by omega⟩, ne⟩ hlt.1 hlt.2, (F3.trans (Fr.set (.inr rfl))).sweep⟩
      · rw [List.getElem?_set_ne ne.symm]; exact r1
      · rw [set_at r2]; simp
      · simp; omega
    · rw [decide_eq_false big, if_neg (by simp)]
      (simp only [evTs, evT, seqOf, evSs, evS, evE, evEs, evO, evK, evI, evD, out_then, out_nx, out_rt, ev_bind, ev_pure, ev_ofOpt, ev_noExc, ev_alloc, ev_need, ev_ite', List.map, List.replicate, List.length, List.cons_append, List.nil_append, envGet, envSet, envDels, envDel, Option.some.injEq, exists_eq_left', Lit.val])
      rw [out_seq]
      (simp only [evTs, evT, seqOf, evSs, evS, evE, evEs, evO, evK, evI, evD, out_then, out_nx, out_rt, ev_bind, ev_pure, ev_ofOpt, ev_noExc, ev_alloc, ev_need, ev_ite', List.map, List.replicate, List.length, List.cons_append, List.nil_append, envGet, envSet, envDels, envDel, Option.some.injEq, exists_eq_left', Lit.val])
      rw [ev_idxL r1 at3_1, ev_add]
      have A := draw_fin (fu := fu) (k := k) (cell := x + seed) (I := fun x S' => ∃ z, Val.non = Val.int z ∧ 0 ≤ z ∧ z < most ∧ Deck (swept (List.length S) Val.non S') d c (m + 1) ∧ Fr S (swept (List.length S) Val.non S') d c) hm h1 e4 e5 ne hlt r1 ⟨L, r2, by omega⟩ F3
      simp only [evTs, evT, seqOf, evSs, evS, evE, evEs, evO, evK, evI, evD, out_then, out_nx, out_rt, ev_bind, ev_pure, ev_ofOpt, ev_noExc, ev_alloc, ev_need, ev_ite', List.map, List.replicate, List.length, List.cons_append, List.nil_append, envGet, envSet, envDels, envDel, Option.some.injEq, exists_eq_left', Lit.val] at A
      exact A
end K00

namespace K00
open PySem L2 Pd
open scoped Classical
variable {fu : Nat} [Big fu]
theorem intsOf_map : ∀ l : List Int, intsOf (l.map .int) = some l
  | [] => rfl
  | i :: l => by rw [List.map_cons, intsOf, intsOf_map l]; rfl
theorem ev_sum {S : Store} {Q : Val → Store → Prop} {r : Nat} {l : List Int} (h : S[r]? = some (.lst (l.map .int))) : Ev (biV .sum [.ref r] S) Q = Q (.int l.sum) S := by
  show Ev (sumF _ S) Q = _
  unfold sumF
  rw [lstOf_at h]
  dsimp only
  rw [intsOf_map]; rfl
theorem deck_ok {k : Nat} {S : Store} {ns : List Int} (h : ns.length ≤ 63) : Ev (callF T fu (k + 1) 6 [.scr ns] S) fun v S' => ∃ d c, v = .ref d ∧ Deck S' d c 0 ∧ Old S S' := by
  (refine ev_call (d := f6) rfl rfl ?_; simp only [f6, evTs, evT, seqOf, evSs, evS, evE, evEs, evO, evK, evI, evD, out_then, out_nx, out_rt, ev_bind, ev_pure, ev_ofOpt, ev_noExc, ev_alloc, ev_need, ev_ite', List.map, List.replicate, List.length, List.cons_append, List.nil_append, envGet, envSet, envDels, envDel, Option.some.injEq, exists_eq_left', Lit.val])
  rw [out_seq]
  (simp only [evTs, evT, seqOf, evSs, evS, evE, evEs, evO, evK, evI, evD, out_then, out_nx, out_rt, ev_bind, ev_pure, ev_ofOpt, ev_noExc, ev_alloc, ev_need, ev_ite', List.map, List.replicate, List.length, List.cons_append, List.nil_append, envGet, envSet, envDels, envDel, Option.some.injEq, exists_eq_left', Lit.val])
  rw [show Ev (slcV (.scr ns) none (some 63) S) = fun Q => Q (.ref S.length) (S ++ [Cell.lst (cutL (ns.map Val.int) none (some ((63 : Nat) : Int)))]) from rfl]
  dsimp only
  rw [cut_to, List.take_of_length_le (by rw [List.length_map]; exact h), ev_listS (seqOf_at snoc_new)]
  have e1 : (S ++ [Cell.lst (ns.map Val.int)] ++ [Cell.lst (ns.map Val.int)])[(S ++ [Cell.lst (ns.map Val.int)]).length]? = some (.lst (ns.map Val.int)) := snoc_new
  have o1 : Old S (S ++ [Cell.lst (ns.map Val.int)] ++ [Cell.lst (ns.map Val.int)]) := Old.trans Old.snoc Old.snoc
  have hr : S.length ≤ (S ++ [Cell.lst (ns.map Val.int)]).length := by simp
  generalize (S ++ [Cell.lst (ns.map Val.int)]).length = r at e1 hr ⊢
  generalize (S ++ [Cell.lst (ns.map Val.int)] ++ [Cell.lst (ns.map Val.int)]) = S1 at e1 o1 ⊢
  rw [out_seq]
  (simp only [evTs, evT, seqOf, evSs, evS, evE, evEs, evO, evK, evI, evD, out_then, out_nx, out_rt, ev_bind, ev_pure, ev_ofOpt, ev_noExc, ev_alloc, ev_need, ev_ite', List.map, List.replicate, List.length, List.cons_append, List.nil_append, envGet, envSet, envDels, envDel, Option.some.injEq, exists_eq_left', Lit.val])
  rw [ev_sum e1, ev_mod (by decide), ev_add]
  have hr4 := (List.getElem?_eq_some_iff.mp e1).1
  have hr5 := o1.1
  refine ⟨by first | rfl | trivial, ?_⟩
  rw [swept_new hr5]
  exact ⟨S1.length, r, rfl, ⟨⟨_, 0, ns, snoc_new, snoc_old e1, by omega, by omega, by omega⟩, by omega⟩, o1.trans Old.snoc⟩
theorem atI_mem {α : Type} {l : List α} {z : Int} (h0 : 0 ≤ z) (h1 : z < l.length) : ∃ x, L2.atI l z = some x ∧ x ∈ l := by
  obtain ⟨n, rfl⟩ := Int.eq_ofNat_of_zero_le h0
  have hn : n < l.length := by omega
  exact ⟨l[n], atI_nat (List.getElem?_eq_getElem hn), List.getElem_mem hn⟩
theorem Fr.new {S S2 : Store} {x : Cell} {d c : Nat} (o : Fr (S ++ [x]) S2 d c) (D : d < S.length ∧ c < S.length) : S2[S.length]? = some x := o.at (snoc_new (S := S) (x := x)) (by omega) (by omega)
/-- a thing of a row of numbers drawn -/
theorem idx_ints {S : Store} {Q : Val → Store → Prop} {r : Nat} {l : List Int} {z : Int} (h : S[r]? = some (.lst (l.map .int))) (h0 : 0 ≤ z) (h1 : z < l.length) (q : ∀ x, x ∈ l → Q (.int x) S) : Ev (idxV (.ref r) (.int z) S) Q := by
  obtain ⟨x, e, hx⟩ := atI_mem (l := l.map Val.int) h0 (by rw [List.length_map]; exact h1)
  obtain ⟨y, hy, rfl⟩ := List.mem_map.mp hx
  rw [ev_idxL h e]
  exact q y hy
theorem pick_ints {k : Nat} {S : Store} {Q : Val → Store → Prop} {d c m : Nat} {l : List Int} {n : Int} (D : Deck S d c m) (hm : m < 2 ^ 60) (hn : n = l.length) (h1 : 1 ≤ l.length) (h2 : l.length < 2 ^ 20) (q : ∀ x S', x ∈ l → Deck S' d c (m + 1) → Fr S S' d c → Q (.int x) S') : Ev (callF T fu (k + 1) 7 [.ref d, .int n] (S ++ [.lst (l.map .int)])) fun a S' => Ev (idxV (.ref S.length) a S') Q := by
  have lt := D.lt
  refine (draw_ok (k := k) (D.old (Old.snoc (x := .lst (l.map .int)))) hm (by omega) (by omega)).imp fun v S1 r => ?_
  obtain ⟨z, rfl, z0, z1, D1, F1⟩ := r
  refine idx_ints (F1.new lt) z0 (by omega) fun x hx => ?_
  exact q x S1 hx D1 (Fr.snoc.trans F1)
theorem whole_ok {k : Nat} {S : Store} {d c m : Nat} (D : Deck S d c m) (hm : m < 2 ^ 50) : Ev (callF T fu (k + 2) 12 [.ref d] S) fun v S' => ∃ z, v = .int z ∧ 0 ≤ z ∧ z ≤ 8999 ∧ Deck S' d c (m + 3) ∧ Fr S S' d c := by
  have lt := D.lt
  (refine ev_call (d := f12) rfl rfl ?_; simp only [f12, evTs, evT, seqOf, evSs, evS, evE, evEs, evO, evK, evI, evD, out_then, out_nx, out_rt, ev_bind, ev_pure, ev_ofOpt, ev_noExc, ev_alloc, ev_need, ev_ite', List.map, List.replicate, List.length, List.cons_append, List.nil_append, envGet, envSet, envDels, envDel, Option.some.injEq, exists_eq_left', Lit.val])
  rw [out_seq]
  (simp only [evTs, evT, seqOf, evSs, evS, evE, evEs, evO, evK, evI, evD, out_then, out_nx, out_rt, ev_bind, ev_pure, ev_ofOpt, ev_noExc, ev_alloc, ev_need, ev_ite', List.map, List.replicate, List.length, List.cons_append, List.nil_append, envGet, envSet, envDels, envDel, Option.some.injEq, exists_eq_left', Lit.val])
  refine (draw_ok (k := k) D (by omega) (by decide) (by decide)).imp fun v S1 q => ?_
  obtain ⟨a, rfl, a0, a1, D1, F1⟩ := q
  refine (draw_ok (k := k) D1 (by omega) (by decide) (by decide)).imp fun v S2 q => ?_
  obtain ⟨b, rfl, b0, b1, D2, F2⟩ := q
  refine ⟨by first | rfl | trivial, ?_⟩
  have lt2 := D2.lt
  have e3 : (S2 ++ [Cell.lst [Val.int 0, .int 1, .int 2, .int 3, .int 9, .int 10, .int 99, .int 100, .int 999, .int 8999, .int a, .int b]])[S2.length]? = some (.lst ([0, 1, 2, 3, 9, 10, 99, 100, 999, 8999, a, b].map .int)) := snoc_new
  have D3 := D2.old (Old.snoc (x := Cell.lst [Val.int 0, .int 1, .int 2, .int 3, .int 9, .int 10, .int 99, .int 100, .int 999, .int 8999, .int a, .int b]))
  have F3 := (F1.trans F2).trans (Fr.snoc (x := Cell.lst [Val.int 0, .int 1, .int 2, .int 3, .int 9, .int 10, .int 99, .int 100, .int 999, .int 8999, .int a, .int b]))
  generalize S2 ++ [Cell.lst [Val.int 0, .int 1, .int 2, .int 3, .int 9, .int 10, .int 99, .int 100, .int 999, .int 8999, .int a, .int b]] = S3 at e3 D3 F3 ⊢
  rw [out_seq]
  (simp only [evTs, evT, seqOf, evSs, evS, evE, evEs, evO, evK, evI, evD, out_then, out_nx, out_rt, ev_bind, ev_pure, ev_ofOpt, ev_noExc, ev_alloc, ev_need, ev_ite', List.map, List.replicate, List.length, List.cons_append, List.nil_append, envGet, envSet, envDels, envDel, Option.some.injEq, exists_eq_left', Lit.val])
  refine (draw_ok (k := k) D3 (by omega) (by decide) (by decide)).imp fun v S4 q => ?_
  obtain ⟨z, rfl, z0, z1, D4, F4⟩ := q
  refine idx_ints (F4.at e3 (by omega) (by omega)) z0 (by simpa using z1) fun x hx => ?_
  simp only [List.mem_cons, List.not_mem_nil, or_false] at hx
  refine ⟨x, rfl, by omega, by omega, D4.sweep lt.1 lt.2, (F3.trans F4).sweep⟩
def pr (p : Int × Int) : Val := .tup [.int p.1, .int p.2]
theorem five_ok {k : Nat} {S : Store} {d c m : Nat} (D : Deck S d c m) (hm : m < 2 ^ 40) : Ev (callF T fu (k + 3) 13 [.ref d] S) fun v S' => ∃ x, v = .tup (F5 x) ∧ Org x ∧ Deck S' d c (m + 20) ∧ Fr S S' d c := by
  have lt := D.lt
  (refine ev_call (d := f13) rfl rfl ?_; simp only [f13, evTs, evT, seqOf, evSs, evS, evE, evEs, evO, evK, evI, evD, out_then, out_nx, out_rt, ev_bind, ev_pure, ev_ofOpt, ev_noExc, ev_alloc, ev_need, ev_ite', List.map, List.replicate, List.length, List.cons_append, List.nil_append, envGet, envSet, envDels, envDel, Option.some.injEq, exists_eq_left', Lit.val])
  rw [out_seq]
  (simp only [evTs, evT, seqOf, evSs, evS, evE, evEs, evO, evK, evI, evD, out_then, out_nx, out_rt, ev_bind, ev_pure, ev_ofOpt, ev_noExc, ev_alloc, ev_need, ev_ite', List.map, List.replicate, List.length, List.cons_append, List.nil_append, envGet, envSet, envDels, envDel, Option.some.injEq, exists_eq_left', Lit.val])
  refine (draw_ok (k := k + 1) D (by omega) (by decide) (by decide)).imp fun v S1 q => ?_
  obtain ⟨way, rfl, w0, w1, D1, F1⟩ := q
  rw [out_seq]
  (simp only [evTs, evT, seqOf, evSs, evS, evE, evEs, evO, evK, evI, evD, out_then, out_nx, out_rt, ev_bind, ev_pure, ev_ofOpt, ev_noExc, ev_alloc, ev_need, ev_ite', List.map, List.replicate, List.length, List.cons_append, List.nil_append, envGet, envSet, envDels, envDel, Option.some.injEq, exists_eq_left', Lit.val])
  refine (whole_ok (k := k) D1 (by omega)).imp fun v S2 q => ?_
  obtain ⟨up, rfl, up0, up1, D2, F2⟩ := q
  refine ⟨by first | rfl | trivial, ?_⟩
  refine pick_ints (k := k + 1) (l := [1, -1]) D2 (by omega) rfl (by decide) (by decide) fun sg S3 hsg D3 F3 => ?_
  simp only [List.mem_cons, List.not_mem_nil, or_false] at hsg
  rw [ev_mul (small_fits (.inl (by omega)))]
  have ut : (up * sg).natAbs ≤ 8999 := by rcases hsg with rfl | rfl <;> omega
  generalize up * sg = t at ut
  rw [out_seq]
  (simp only [evTs, evT, seqOf, evSs, evS, evE, evEs, evO, evK, evI, evD, out_then, out_nx, out_rt, ev_bind, ev_pure, ev_ofOpt, ev_noExc, ev_alloc, ev_need, ev_ite', List.map, List.replicate, List.length, List.cons_append, List.nil_append, envGet, envSet, envDels, envDel, Option.some.injEq, exists_eq_left', Lit.val])
  refine ⟨by first | rfl | trivial, ?_⟩
  refine pick_ints (k := k + 1) (l := [1, 12, 8999]) D3 (by omega) rfl (by decide) (by decide) fun bm S4 hbm D4 F4 => ?_
  simp only [List.mem_cons, List.not_mem_nil, or_false] at hbm
  refine (draw_ok (k := k + 1) D4 (by omega) (by omega) (by omega)).imp fun v S5 q => ?_
  obtain ⟨bz, rfl, bz0, bz1, D5, F5⟩ := q
  rw [ev_add, out_seq]
  (simp only [evTs, evT, seqOf, evSs, evS, evE, evEs, evO, evK, evI, evD, out_then, out_nx, out_rt, ev_bind, ev_pure, ev_ofOpt, ev_noExc, ev_alloc, ev_need, ev_ite', List.map, List.replicate, List.length, List.cons_append, List.nil_append, envGet, envSet, envDels, envDel, Option.some.injEq, exists_eq_left', Lit.val])
  refine ⟨by first | rfl | trivial, ?_⟩
  have lt5 := D5.lt
  refine (draw_ok (k := k + 1) (D5.old (Old.snoc (x := .lst [.int (-1), .int 1, .int 0]))) (by omega) (by omega) (by omega)).imp fun v S6 q => ?_
  obtain ⟨mz, rfl, mz0, mz1, D6, F6⟩ := q
  rw [ev_fdiv (by decide)]
  have e6 : S6[S5.length]? = some (.lst ([-1, 1, 0].map .int)) := F6.new lt5
  refine idx_ints e6 (Int.fdiv_nonneg (by omega) (by omega)) (by
    rw [Int.fdiv_eq_ediv_of_nonneg _ (by omega)]
    show mz / 3 < 3
    omega) fun mk hmk => ?_
  simp only [List.mem_cons, List.not_mem_nil, or_false] at hmk
  have F06 := F1.trans (F2.trans (F3.trans (F4.trans (F5.trans ((Fr.snoc (x := .lst [.int (-1), .int 1, .int 0])).trans F6)))))
  rw [out_seq]
  (simp only [evTs, evT, seqOf, evSs, evS, evE, evEs, evO, evK, evI, evD, out_then, out_nx, out_rt, ev_bind, ev_pure, ev_ofOpt, ev_noExc, ev_alloc, ev_need, ev_ite', List.map, List.replicate, List.length, List.cons_append, List.nil_append, envGet, envSet, envDels, envDel, Option.some.injEq, exists_eq_left', Lit.val])
  refine (draw_ok (k := k + 1) D6 (by omega) (by omega) (by omega)).imp fun v S7 q => ?_
  obtain ⟨mn, rfl, mn0, mn1, D7, F7⟩ := q
  rw [ev_add]
  refine (draw_ok (k := k + 1) D7 (by omega) (by omega) (by omega)).imp fun v S8 q => ?_
  obtain ⟨by_, rfl, by0, by1, D8, F8⟩ := q
  rw [ev_add, out_seq]
  (simp only [evTs, evT, seqOf, evSs, evS, evE, evEs, evO, evK, evI, evD, out_then, out_nx, out_rt, ev_bind, ev_pure, ev_ofOpt, ev_noExc, ev_alloc, ev_need, ev_ite', List.map, List.replicate, List.length, List.cons_append, List.nil_append, envGet, envSet, envDels, envDel, Option.some.injEq, exists_eq_left', Lit.val])
  refine ⟨by first | rfl | trivial, ?_⟩
  refine pick_ints (k := k + 1) (l := [2, 3, 5, 6, 7, 10, 30, 8999]) D8 (by omega) rfl (by decide) (by decide) fun fr S9 hfr D9 F9 => ?_
  simp only [List.mem_cons, List.not_mem_nil, or_false] at hfr
  have F09 := F06.trans (F7.trans (F8.trans F9))
  generalize hmany : 1 + mn = many
  generalize hby : 1 + by_ = by'
  have f1 := mul_le (show many.natAbs ≤ 30 by omega) (show many.natAbs ≤ 30 by omega)
  have f2 := mul_le (show by'.natAbs ≤ 12 by omega) (show by'.natAbs ≤ 12 by omega)
  have f3 := mul_le (show fr.natAbs ≤ 8999 by omega) (show by'.natAbs ≤ 12 by omega)
  have f4 := mul_le f3 (show by'.natAbs ≤ 12 by omega)
  have f5 := mul_le (show many.natAbs ≤ 30 by omega) (show fr.natAbs ≤ 8999 by omega)
  have f6 := mul_le (show by'.natAbs ≤ 12 by omega) (show fr.natAbs ≤ 8999 by omega)
  have g1 := Int.mul_pos (show 0 < many by omega) (show 0 < many by omega)
  have g2 := Int.mul_pos (show 0 < by' by omega) (show 0 < by' by omega)
  have g3 := Int.mul_pos (show 0 < fr by omega) (show 0 < by' by omega)
  have g4 := Int.mul_pos g3 (show 0 < by' by omega)
  have g5 := Int.mul_pos (show 0 < many by omega) (show 0 < fr by omega)
  have g6 := Int.mul_pos (show 0 < by' by omega) (show 0 < fr by omega)
  rw [out_seq]
  (simp only [evTs, evT, seqOf, evSs, evS, evE, evEs, evO, evK, evI, evD, out_then, out_nx, out_rt, ev_bind, ev_pure, ev_ofOpt, ev_noExc, ev_alloc, ev_need, ev_ite', List.map, List.replicate, List.length, List.cons_append, List.nil_append, envGet, envSet, envDels, envDel, Option.some.injEq, exists_eq_left', Lit.val])
  rw [ev_mul (small_fits (.inl (by omega))), ev_mul (small_fits (.inl (by omega)))]
  refine ⟨by first | rfl | trivial, by first | rfl | trivial, ?_⟩
  rw [ev_mul (small_fits (.inl (by omega))), ev_mul (small_fits (.inl (by omega))), ev_mul (small_fits (.inl (by omega)))]
  refine ⟨by first | rfl | trivial, by first | rfl | trivial, ?_⟩
  have e10 : (S9 ++ [Cell.lst ([(fr, 1), (many * many, by' * by'), (fr * by' * by', many * many)].map pr)])[S9.length]? = some (.lst ([(fr, 1), (many * many, by' * by'), (fr * by' * by', many * many)].map pr)) := snoc_new
  have D10 := D9.old (Old.snoc (x := Cell.lst ([(fr, 1), (many * many, by' * by'), (fr * by' * by', many * many)].map pr)))
  have F010 := F09.trans (Fr.snoc (x := Cell.lst ([(fr, 1), (many * many, by' * by'), (fr * by' * by', many * many)].map pr)))
  have lt9 := D9.lt
  rw [show [Val.tup [Val.int fr, .int 1], .tup [.int (many * many), .int (by' * by')], .tup [.int (fr * by' * by'), .int (many * many)]] = [(fr, 1), (many * many, by' * by'), (fr * by' * by', many * many)].map pr from rfl]
  generalize S9 ++ [Cell.lst ([(fr, 1), (many * many, by' * by'), (fr * by' * by', many * many)].map pr)] = S10 at e10 D10 F010 ⊢
  rw [out_seq]
  (simp only [evTs, evT, seqOf, evSs, evS, evE, evEs, evO, evK, evI, evD, out_then, out_nx, out_rt, ev_bind, ev_pure, ev_ofOpt, ev_noExc, ev_alloc, ev_need, ev_ite', List.map, List.replicate, List.length, List.cons_append, List.nil_append, envGet, envSet, envDels, envDel, Option.some.injEq, exists_eq_left', Lit.val])
  refine (whole_ok (k := k) D10 (by omega)).imp fun v S11 q => ?_
  obtain ⟨w, rfl, w2, w3, D11, F11⟩ := q
  refine ⟨by first | rfl | trivial, by first | rfl | trivial, ?_⟩
  rw [ev_mul (small_fits (.inl (by omega))), ev_mul (small_fits (.inl (by omega)))]
  refine ⟨by first | rfl | trivial, by first | rfl | trivial, ?_⟩
  have e11 := F11.at e10 (by omega) (by omega)
  rw [show [Val.tup [Val.int w, .int by'], .tup [.int 0, .int by'], .tup [.int (many * fr), .int (by' * fr)]] = [(w, by'), (0, by'), (many * fr, by' * fr)].map pr from rfl]
  rw [ev_catL (snoc_old e11) snoc_new (by simp [sizeMax]), ← List.map_append]
  have D12 := (D11.old (Old.snoc (x := Cell.lst ([(w, by'), (0, by'), (many * fr, by' * fr)].map pr)))).old (Old.snoc (x := Cell.lst (([(fr, 1), (many * many, by' * by'), (fr * by' * by', many * many)] ++ [(w, by'), (0, by'), (many * fr, by' * fr)]).map pr)))
  have F012 := (F010.trans F11).trans ((Fr.snoc (x := Cell.lst ([(w, by'), (0, by'), (many * fr, by' * fr)].map pr))).trans (Fr.snoc (x := Cell.lst (([(fr, 1), (many * many, by' * by'), (fr * by' * by', many * many)] ++ [(w, by'), (0, by'), (many * fr, by' * fr)]).map pr))))
  have e12 : (S11 ++ [Cell.lst ([(w, by'), (0, by'), (many * fr, by' * fr)].map pr)] ++ [Cell.lst (([(fr, 1), (many * many, by' * by'), (fr * by' * by', many * many)] ++ [(w, by'), (0, by'), (many * fr, by' * fr)]).map pr)])[(S11 ++ [Cell.lst ([(w, by'), (0, by'), (many * fr, by' * fr)].map pr)]).length]? = some (.lst (([(fr, 1), (many * many, by' * by'), (fr * by' * by', many * many)] ++ [(w, by'), (0, by'), (many * fr, by' * fr)]).map pr)) := snoc_new
  generalize S11 ++ [Cell.lst ([(w, by'), (0, by'), (many * fr, by' * fr)].map pr)] ++ [Cell.lst (([(fr, 1), (many * many, by' * by'), (fr * by' * by', many * many)] ++ [(w, by'), (0, by'), (many * fr, by' * fr)]).map pr)] = S12 at D12 F012 e12 ⊢
  generalize (S11 ++ [Cell.lst ([(w, by'), (0, by'), (many * fr, by' * fr)].map pr)]).length = r12 at e12 ⊢
  rw [out_seq]
  (simp only [evTs, evT, seqOf, evSs, evS, evE, evEs, evO, evK, evI, evD, out_then, out_nx, out_rt, ev_bind, ev_pure, ev_ofOpt, ev_noExc, ev_alloc, ev_need, ev_ite', List.map, List.replicate, List.length, List.cons_append, List.nil_append, envGet, envSet, envDels, envDel, Option.some.injEq, exists_eq_left', Lit.val])
  obtain ⟨x, ex, hx⟩ := atI_mem (l := ([(fr, 1), (many * many, by' * by'), (fr * by' * by', many * many)] ++ [(w, by'), (0, by'), (many * fr, by' * fr)]).map pr) w0 (by simpa using w1)
  obtain ⟨p, hp, rfl⟩ := List.mem_map.mp hx
  simp only [List.mem_append, List.mem_cons, List.not_mem_nil, or_false] at hp
  have hp1 : 0 ≤ p.1 ∧ 1 ≤ p.2 ∧ p.2 ≤ 2 ^ 20 := by
    rcases hp with (rfl | rfl | rfl) | (rfl | rfl | rfl) <;> (dsimp only; omega)
  rw [ev_idxL e12 ex]
  unfold pr
  (simp only [evTs, evT, seqOf, evSs, evS, evE, evEs, evO, evK, evI, evD, out_then, out_nx, out_rt, ev_bind, ev_pure, ev_ofOpt, ev_noExc, ev_alloc, ev_need, ev_ite', List.map, List.replicate, List.length, List.cons_append, List.nil_append, envGet, envSet, envDels, envDel, Option.some.injEq, exists_eq_left', Lit.val])
  rw [out_seq]
  (simp only [evTs, evT, seqOf, evSs, evS, evE, evEs, evO, evK, evI, evD, out_then, out_nx, out_rt, ev_bind, ev_pure, ev_ofOpt, ev_noExc, ev_alloc, ev_need, ev_ite', List.map, List.replicate, List.length, List.cons_append, List.nil_append, envGet, envSet, envDels, envDel, Option.some.injEq, exists_eq_left', Lit.val])
  rw [show Ev (biV .min2 [.int p.1, .int 999999] S12) = Ev ((pure (.int (if (999999 : Int) < p.1 then 999999 else p.1)) : M Val) S12) from rfl, ev_pure]
  refine ⟨by first | rfl | trivial, (t, 1 + bz, mk, (if (999999 : Int) < p.1 then 999999 else p.1), p.2), rfl, ⟨⟨by show 0 < 1 + bz; omega, by show 0 < p.2; omega, ?_, ?_⟩, by show t.natAbs ≤ _; omega, by show 1 + bz ≤ _; omega, ?_, hp1.2.2⟩, (D12.up (by omega)).sweep lt.1 lt.2, F012.sweep⟩
  · dsimp only
    split <;> omega
  · dsimp only
    omega
  · dsimp only
    split <;> omega
end K00

namespace K00
open PySem L2 Pd
open scoped Classical
variable {fu : Nat} [Big fu]
theorem great_ok {k : Nat} {S : Store} {d c m : Nat} (D : Deck S d c m) (hm : m < 2 ^ 40) : Ev (callF T fu (k + 2) 19 [.ref d] S) fun v S' => ∃ x, v = .tup (F5 x) ∧ Org x ∧ Deck S' d c (m + 20) ∧ Fr S S' d c := by
  have lt := D.lt
  (refine ev_call (d := f19) rfl rfl ?_; simp only [f19, evTs, evT, seqOf, evSs, evS, evE, evEs, evO, evK, evI, evD, out_then, out_nx, out_rt, ev_bind, ev_pure, ev_ofOpt, ev_noExc, ev_alloc, ev_need, ev_ite', List.map, List.replicate, List.length, List.cons_append, List.nil_append, envGet, envSet, envDels, envDel, Option.some.injEq, exists_eq_left', Lit.val])
  rw [out_seq]
  (simp only [evTs, evT, seqOf, evSs, evS, evE, evEs, evO, evK, evI, evD, out_then, out_nx, out_rt, ev_bind, ev_pure, ev_ofOpt, ev_noExc, ev_alloc, ev_need, ev_ite', List.map, List.replicate, List.length, List.cons_append, List.nil_append, envGet, envSet, envDels, envDel, Option.some.injEq, exists_eq_left', Lit.val])
  rw [ev_range (by decide) (by decide) (by decide) (by decide)]
  refine ev_lc (xs := Pd.upTo 0 (4 - 0 : Int).toNat) (fun _ x => x) (fun k acc S' => Deck S' d c (m + k) ∧ Fr S S' d c ∧ ∃ l : List Int, acc = l.map .int ∧ l.length = k ∧ ∀ x ∈ l, 999990 ≤ x ∧ x ≤ 999999) rfl (fun k acc S' _ => by show some (Pd.upTo 0 (4 - 0 : Int).toNat)[k]? = some (Option.map (fun x => x) _); rw [Option.map_id']) (fun j x acc S' hx ha hJ => ?_) (by rw [upTo_len]; decide) ⟨D, Fr.refl _ _ _, [], rfl, rfl, by simp⟩ (fun l S1 hJ _ => ?_)
  · obtain ⟨D1, F1, l, rfl, hl, hb⟩ := hJ
    obtain ⟨hj, rfl⟩ := upTo_at hx
    have hj : j < 4 := hj
    refine ⟨_, rfl, ?_⟩
    (simp only [evTs, evT, seqOf, evSs, evS, evE, evEs, evO, evK, evI, evD, out_then, out_nx, out_rt, ev_bind, ev_pure, ev_ofOpt, ev_noExc, ev_alloc, ev_need, ev_ite', List.map, List.replicate, List.length, List.cons_append, List.nil_append, envGet, envSet, envDels, envDel, Option.some.injEq, exists_eq_left', Lit.val])
    rw [if_pos (by trivial), ev_pow (by decide), ev_sub]
    refine (draw_ok (k := k) D1 (by omega) (by decide) (by decide)).imp fun v S2 q => ?_
    obtain ⟨z, rfl, z0, z1, D2, F2⟩ := q
    rw [ev_sub]
    refine ⟨D2, F1.trans F2, l ++ [(10 : Int) ^ (6 : Int).toNat - 1 - z], by simp, by simp [hl], fun x hx => ?_⟩
    rcases List.mem_append.mp hx with hx | hx
    · exact hb x hx
    · simp only [List.mem_cons, List.not_mem_nil, or_false] at hx
      have : (10 : Int) ^ (6 : Int).toNat = 1000000 := by decide
      omega
  · obtain ⟨D1, F1, l, rfl, hl, hb⟩ := hJ
    have hl : l.length = 4 := hl
    have D1 : Deck S1 d c (m + 4) := D1
    match l, hl with
    | [x0, x1, x2, x3], _ =>
      have b0 := hb x0 (by simp)
      have b1 := hb x1 (by simp)
      have b2 := hb x2 (by simp)
      have b3 := hb x3 (by simp)
      clear hb
      have lt1 := D1.lt
      have e2 : (S1 ++ [Cell.lst ([x0, x1, x2, x3].map Val.int)])[S1.length]? = some (.lst [.int x0, .int x1, .int x2, .int x3]) := snoc_new
      have D2 := D1.old (Old.snoc (x := Cell.lst ([x0, x1, x2, x3].map Val.int)))
      have F2 := F1.trans (Fr.snoc (x := Cell.lst ([x0, x1, x2, x3].map Val.int)))
      have hr := F1.1
      generalize S1 ++ [Cell.lst ([x0, x1, x2, x3].map Val.int)] = S2 at e2 D2 F2 ⊢
      rw [out_seq]
      (simp only [evTs, evT, seqOf, evSs, evS, evE, evEs, evO, evK, evI, evD, out_then, out_nx, out_rt, ev_bind, ev_pure, ev_ofOpt, ev_noExc, ev_alloc, ev_need, ev_ite', List.map, List.replicate, List.length, List.cons_append, List.nil_append, envGet, envSet, envDels, envDel, Option.some.injEq, exists_eq_left', Lit.val])
      rw [ev_idxL e2 at_3, ev_sub, ev_setL (n := 3) e2 rfl]
      have e3 : (S2.set S1.length (.lst ([Val.int x0, .int x1, .int x2, .int x3].set 3 (.int (x3 - 20)))))[S1.length]? = some (.lst [Val.int x0, .int x1, .int x2, .int (x3 - 20)]) := set_at e2
      have D3 := D2.set_new (x := .lst ([Val.int x0, .int x1, .int x2, .int x3].set 3 (.int (x3 - 20)))) (i := S1.length) (by omega) (by omega)
      have F3 := F2.set_new (x := .lst ([Val.int x0, .int x1, .int x2, .int x3].set 3 (.int (x3 - 20)))) hr
      generalize S2.set S1.length (.lst ([Val.int x0, .int x1, .int x2, .int x3].set 3 (.int (x3 - 20)))) = S3 at e3 D3 F3 ⊢
      rw [out_seq]
      (simp only [evTs, evT, seqOf, evSs, evS, evE, evEs, evO, evK, evI, evD, out_then, out_nx, out_rt, ev_bind, ev_pure, ev_ofOpt, ev_noExc, ev_alloc, ev_need, ev_ite', List.map, List.replicate, List.length, List.cons_append, List.nil_append, envGet, envSet, envDels, envDel, Option.some.injEq, exists_eq_left', Lit.val])
      refine (draw_ok (k := k) D3 (by omega) (by decide) (by decide)).imp fun v S4 q => ?_
      obtain ⟨y, rfl, y0, y1, D4, F4⟩ := q
      refine (draw_ok (k := k) D4 (by omega) (by decide) (by decide)).imp fun v S5 q => ?_
      obtain ⟨z, rfl, z0, z1, D5, F5⟩ := q
      refine ⟨by first | rfl | trivial, ?_⟩
      have e5 := F5.at (F4.at e3 (by omega) (by omega)) (by omega) (by omega)
      have h5 := (List.getElem?_eq_some_iff.mp e5).1
      have e6 : (S5 ++ [Cell.lst [Val.int y, .int z]])[S5.length]? = some (.lst [.int y, .int z]) := snoc_new
      have e65 := snoc_old (x := Cell.lst [Val.int y, .int z]) e5
      have D6 := D5.old (Old.snoc (x := Cell.lst [Val.int y, .int z]))
      have F6 := (F3.trans (F4.trans F5)).trans (Fr.snoc (x := Cell.lst [Val.int y, .int z]))
      have h6 : S5.length < (S5 ++ [Cell.lst [Val.int y, .int z]]).length := by simp
      generalize S5 ++ [Cell.lst [Val.int y, .int z]] = S6 at e6 e65 D6 F6 h6 ⊢
      rw [out_seq]
      (simp only [evTs, evT, seqOf, evSs, evS, evE, evEs, evO, evK, evI, evD, out_then, out_nx, out_rt, ev_bind, ev_pure, ev_ofOpt, ev_noExc, ev_alloc, ev_need, ev_ite', List.map, List.replicate, List.length, List.cons_append, List.nil_append, envGet, envSet, envDels, envDel, Option.some.injEq, exists_eq_left', Lit.val])
      rw [ev_idxL e65 at_zero]
      refine ⟨by first | rfl | trivial, ?_⟩
      rw [ev_idxL (snoc_old e6) at_zero]
      refine idx_ints (l := [1, -1]) snoc_new y0 (by simpa using y1) fun sg hsg => ?_
      simp only [List.mem_cons, List.not_mem_nil, or_false] at hsg
      rw [ev_mul (small_fits (.inl (by omega))), ev_idxL (snoc_old e65) at_pair, ev_idxL (snoc_old e6) at_pair, ev_sub, ev_idxL (snoc_old e65) at_2, ev_idxL (snoc_old e65) at_3]
      have ut : (x0 * sg).natAbs ≤ 999999 := by rcases hsg with rfl | rfl <;> omega
      refine ⟨by first | rfl | trivial, (x0 * sg, x1, z - 1, x2, x3 - 20), rfl, ⟨⟨by show 0 < x1; omega, by show 0 < x3 - 20; omega, by show 0 ≤ x2; omega, by show -1 ≤ z - 1 ∧ z - 1 ≤ 1; omega⟩, by show (x0 * sg).natAbs ≤ _; omega, by show x1 ≤ _; omega, by show x2 ≤ _; omega, by show x3 - 20 ≤ _; omega⟩, ((D6.old Old.snoc).up (by omega)).sweep lt.1 lt.2, (F6.trans Fr.snoc).sweep⟩
end K00

namespace K00
open PySem L2 Pd
open scoped Classical
variable {fu : Nat} [Big fu]
/-! ### is it right -/
theorem in_marks {S : Store} {i : Int} : Pd.inV S (.int i) (.tup [.int (-1), .int 0, .int 1]) = some (decide (-1 ≤ i) && decide (i ≤ 1)) := by
  show some (decide _ || (decide _ || (decide _ || false))) = _
  congr 1
  by_cases h : -1 ≤ i ∧ i ≤ 1
  · have : i = -1 ∨ i = 0 ∨ i = 1 := by omega
    rcases this with rfl | rfl | rfl <;> decide
  · rw [← Bool.decide_and, decide_eq_false h, decide_eq_false (by omega), decide_eq_false (by omega), decide_eq_false (by omega)]
    rfl
theorem is_right_ok {k : Nat} {S : Store} {a b c d e : Val} : Ev (callF T fu (k + 1) 18 [.tup [a, b, c, d, e]] S) fun v S' => v = .bl (rightB a b c d e) ∧ Old S S' := by
  (refine ev_call (d := f18) rfl rfl ?_; simp only [f18, evTs, evT, seqOf, evSs, evS, evE, evEs, evO, evK, evI, evD, out_then, out_nx, out_rt, ev_bind, ev_pure, ev_ofOpt, ev_noExc, ev_alloc, ev_need, ev_ite', List.map, List.replicate, List.length, List.cons_append, List.nil_append, envGet, envSet, envDels, envDel, Option.some.injEq, exists_eq_left', Lit.val])
  rw [out_seq]
  (simp only [evTs, evT, seqOf, evSs, evS, evE, evEs, evO, evK, evI, evD, out_then, out_nx, out_rt, ev_bind, ev_pure, ev_ofOpt, ev_noExc, ev_alloc, ev_need, ev_ite', List.map, List.replicate, List.length, List.cons_append, List.nil_append, envGet, envSet, envDels, envDel, Option.some.injEq, exists_eq_left', Lit.val])
  rw [ev_srcT]
  refine out_loop (xs := [a, b, c, d, e]) (fun _ x => x) (fun j env S' => S' = S ∧ (∃ o, env = [some (.tup [a, b, c, d, e]), o]) ∧ ([a, b, c, d, e].take j).all isI = true) rfl (fun j env S' _ => by show some [a, b, c, d, e][j]? = some (Option.map (fun x => x) _); rw [Option.map_id']) (fun j x env S' hx hJ => ?_) ⟨rfl, ⟨none, rfl⟩, rfl⟩ (fun env S' hJ => ?_)
  · obtain ⟨hS, ⟨o, he⟩, hA⟩ := hJ
    subst hS
    subst he
    refine ⟨_, rfl, ?_⟩
    rw [out_seq]
    (simp only [evTs, evT, seqOf, evSs, evS, evE, evEs, evO, evK, evI, evD, out_then, out_nx, out_rt, ev_bind, ev_pure, ev_ofOpt, ev_noExc, ev_alloc, ev_need, ev_ite', List.map, List.replicate, List.length, List.cons_append, List.nil_append, envGet, envSet, envDels, envDel, Option.some.injEq, exists_eq_left', Lit.val])
    have hI := int_ty S' x
    have hB := bool_ty S' x
    rw [ev_isin, hI, ev_tb, ev_tb]
    cases hx1 : isI x with
    | true =>
      have : isB x = false := by cases x <;> first | rfl | cases hx1
      rw [Bool.true_or, Bool.not_true, if_neg (by simp), ev_isin, hB, this, ev_tb, if_neg (by simp), out_nx]
      refine ⟨rfl, ⟨_, rfl⟩, ?_⟩
      rw [List.take_succ, hx, List.all_append, hA]
      simp [hx1]
    | false =>
      have hr : rightB a b c d e = false := right_not (by
        have : ([a, b, c, d, e].all isI) = false := by
          rw [List.all_eq_false]
          exact ⟨x, List.mem_of_getElem? hx, by rw [hx1]; simp⟩
        simpa using this)
      rw [hr]
      cases hx2 : isB x with
      | true =>
        rw [Bool.or_true, Bool.not_true, if_neg (by simp), ev_isin, hB, hx2, ev_tb, if_pos (by rfl), out_seq]
        (simp only [evTs, evT, seqOf, evSs, evS, evE, evEs, evO, evK, evI, evD, out_then, out_nx, out_rt, ev_bind, ev_pure, ev_ofOpt, ev_noExc, ev_alloc, ev_need, ev_ite', List.map, List.replicate, List.length, List.cons_append, List.nil_append, envGet, envSet, envDels, envDel, Option.some.injEq, exists_eq_left', Lit.val])
        exact ⟨by first | rfl | trivial, (Old.refl _).sweep⟩
      | false =>
        rw [Bool.or_false, Bool.not_false, if_pos (by rfl), ev_tb, if_pos (by rfl), out_seq]
        (simp only [evTs, evT, seqOf, evSs, evS, evE, evEs, evO, evK, evI, evD, out_then, out_nx, out_rt, ev_bind, ev_pure, ev_ofOpt, ev_noExc, ev_alloc, ev_need, ev_ite', List.map, List.replicate, List.length, List.cons_append, List.nil_append, envGet, envSet, envDels, envDel, Option.some.injEq, exists_eq_left', Lit.val])
        exact ⟨by first | rfl | trivial, (Old.refl _).sweep⟩
  · obtain ⟨hS, ⟨o, he⟩, hA⟩ := hJ
    subst hS
    subst he
    have hA : (isI a && (isI b && (isI c && (isI d && (isI e && true))))) = true := hA
    simp only [Bool.and_eq_true] at hA
    obtain ⟨t, x, s, o, u, rfl, rfl, rfl, rfl, rfl⟩ := right_ints ⟨hA.1, hA.2.1, hA.2.2.1, hA.2.2.2.1, hA.2.2.2.2.1⟩
    rw [out_seq]
    (simp only [evTs, evT, seqOf, evSs, evS, evE, evEs, evO, evK, evI, evD, out_then, out_nx, out_rt, ev_bind, ev_pure, ev_ofOpt, ev_noExc, ev_alloc, ev_need, ev_ite', List.map, List.replicate, List.length, List.cons_append, List.nil_append, envGet, envSet, envDels, envDel, Option.some.injEq, exists_eq_left', Lit.val])
    simp only [rightB]
    rw [ev_idxT (show L2.atI _ 1 = some _ from at_pair), ev_gt, ev_tb]
    by_cases h1 : 0 < x
    · rw [decide_eq_true h1, if_pos (by rfl), ev_idxT (show L2.atI _ 4 = some _ from at_4), ev_gt, ev_tb]
      by_cases h2 : 0 < u
      · rw [decide_eq_true h2, if_pos (by rfl), ev_idxT (show L2.atI _ 3 = some _ from at_3), ev_ge, ev_tb]
        by_cases h3 : 0 ≤ o
        · rw [decide_eq_true h3, if_pos (by rfl), ev_idxT (show L2.atI _ 2 = some _ from at_2)]
          refine ⟨by first | rfl | trivial, ?_⟩
          rw [ev_in in_marks]
          exact ⟨by simp, (Old.refl _).sweep⟩
        · rw [decide_eq_false h3, if_neg (by simp)]
          exact ⟨by simp, (Old.refl _).sweep⟩
      · rw [decide_eq_false h2, if_neg (by simp)]
        exact ⟨by simp, (Old.refl _).sweep⟩
    · rw [decide_eq_false h1, if_neg (by simp)]
      exact ⟨by simp, (Old.refl _).sweep⟩
end K00

namespace K00
open PySem L2 Pd
open scoped Classical
variable {fu : Nat} [Big fu]
/-! ### made by names -/
theorem cut2 {a b c d e : Val} : cutL [a, b, c, d, e] (some 2) none = [c, d, e] := rfl
theorem mk2 {k : Nat} {S : Store} {zs : List Val} {va vb vc vd ve : Val} {z : T5} {Q : Val → Store → Prop} (R : RightV va vb vc vd ve z) (h : zs = [va, vb, vc, vd, ve]) (q : Q (.ins 0 (F5 z)) S) : Ev (mkV T.cs (callF T fu (k + 3)) 0 zs S) Q := by
  subst h
  refine (mk_ok (k := k) R).imp fun v S' r => ?_
  obtain ⟨rfl, rfl⟩ := r
  exact q
theorem eq_tail {S : Store} {va vb vc vd ve : Val} {z : T5} (R : RightV va vb vc vd ve z) : ∃ b : Bool, Pd.eqV S (.tup [vc, vd, ve]) (.tup [.int 0, .int 0, .int 1]) = some b ∧ (b = true → vc = .int 0 ∧ vd = .int 0 ∧ ve = .int 1) := by
  obtain ⟨t, b, s, o, u, rfl, rfl, rfl, rfl, rfl, F, B, hf⟩ := R
  refine ⟨decide ([s, o, u] = [0, 0, 1]), eq_ints (xs := [s, o, u]) (ys := [0, 0, 1]), fun h => ?_⟩
  have h := of_decide_eq_true h
  injection h with h1 h2
  injection h2 with h2 h3
  injection h3 with h3 _
  rw [h1, h2, h3]
  exact ⟨rfl, rfl, rfl⟩
theorem eq_one {S : Store} {v : Val} {t : Int} (h : v = .int t) {Q : Val → Store → Prop} (q : ∀ b : Bool, (b = true → v = .int 1) → Q (.bl b) S) : Ev (cmpV .eq v (.int 1) S) Q := by
  subst h
  rw [ev_eqI]
  exact q _ fun h => by rw [of_decide_eq_true h]
theorem names_fin {k : Nat} {S : Store} {dk : Nat} {va vb vc vd ve : Val} {z : T5} {I : Pd.Env → Store → Prop} {P : Val → Store → Prop} (R : RightV va vb vc vd ve z) (fin : P (.ins 0 (F5 z)) S) :
    Out (evSs (T.C fu (k + 3)) fu (.cons (.ife (.cmp .eq (.slc (.var 1) (.some (.lit (.int 2))) .none) (.tup (.cons (.lit (.int 0)) (.cons (.lit (.int 0)) (.cons (.lit (.int 1)) .nil)))))
    (.cons (.ret (.mk 0 3 (.cons (.idx (.var 1) (.lit (.int 0))) .nil) (.cons (.idx (.var 1) (.lit (.int 1))) .nil)))
    .nil)
    .nil)
    (.cons (.ife (.cmp .eq (.idx (.var 1) (.lit (.int 4))) (.lit (.int 1)))
    (.cons (.ret (.mk 0 2 .nil (.cons (.idx (.var 1) (.lit (.int 1))) (.cons (.idx (.var 1) (.lit (.int 3))) (.cons (.idx (.var 1) (.lit (.int 2))) (.cons (.idx (.var 1) (.lit (.int 0))) .nil))))))
    .nil)
    .nil)
    (.cons (.ret (.mk 0 1 .nil (.cons (.idx (.var 1) (.lit (.int 4))) (.cons (.idx (.var 1) (.lit (.int 2))) (.cons (.idx (.var 1) (.lit (.int 1))) (.cons (.idx (.var 1) (.lit (.int 0))) (.cons (.idx (.var 1) (.lit (.int 3))) .nil)))))))
    .nil))) [some (.ref dk), some (.tup [va, vb, vc, vd, ve])] S) I P := by
  obtain ⟨bt, h1, h2⟩ := eq_tail (S := S) R
  obtain ⟨u, hve⟩ : ∃ t, ve = .int t := by obtain ⟨t, b, s, o, u, _, _, _, _, h, _⟩ := R; exact ⟨u, h⟩
  simp only [evSs]
  rw [out_seq]
  (simp only [evTs, evT, seqOf, evSs, evS, evE, evEs, evO, evK, evI, evD, out_then, out_nx, out_rt, ev_bind, ev_pure, ev_ofOpt, ev_noExc, ev_alloc, ev_need, ev_ite', List.map, List.replicate, List.length, List.cons_append, List.nil_append, envGet, envSet, envDels, envDel, Option.some.injEq, exists_eq_left', Lit.val])
  rw [slc_tup, cut2]
  refine ⟨by first | rfl | trivial, ?_⟩
  rw [ev_eq h1, ev_tb]
  cases bt with
  | true =>
    obtain ⟨rfl, rfl, rfl⟩ := h2 rfl
    rw [if_pos (by rfl), out_seq]
    (simp only [evTs, evT, seqOf, evSs, evS, evE, evEs, evO, evK, evI, evD, out_then, out_nx, out_rt, ev_bind, ev_pure, ev_ofOpt, ev_noExc, ev_alloc, ev_need, ev_ite', List.map, List.replicate, List.length, List.cons_append, List.nil_append, envGet, envSet, envDels, envDel, Option.some.injEq, exists_eq_left', Lit.val])
    rw [ev_idxT (show L2.atI _ 0 = some _ from at_zero), ev_idxT (show L2.atI _ 1 = some _ from at_pair)]
    refine ⟨_, rfl, mk2 (k := k) R rfl fin⟩
  | false =>
    rw [if_neg (by simp)]
    (simp only [evTs, evT, seqOf, evSs, evS, evE, evEs, evO, evK, evI, evD, out_then, out_nx, out_rt, ev_bind, ev_pure, ev_ofOpt, ev_noExc, ev_alloc, ev_need, ev_ite', List.map, List.replicate, List.length, List.cons_append, List.nil_append, envGet, envSet, envDels, envDel, Option.some.injEq, exists_eq_left', Lit.val])
    rw [out_seq]
    (simp only [evTs, evT, seqOf, evSs, evS, evE, evEs, evO, evK, evI, evD, out_then, out_nx, out_rt, ev_bind, ev_pure, ev_ofOpt, ev_noExc, ev_alloc, ev_need, ev_ite', List.map, List.replicate, List.length, List.cons_append, List.nil_append, envGet, envSet, envDels, envDel, Option.some.injEq, exists_eq_left', Lit.val])
    rw [ev_idxT (show L2.atI _ 4 = some _ from at_4)]
    refine eq_one hve fun b hb => ?_
    rw [ev_tb]
    cases b with
    | true =>
      have := hb rfl
      subst this
      rw [if_pos (by rfl), out_seq]
      (simp only [evTs, evT, seqOf, evSs, evS, evE, evEs, evO, evK, evI, evD, out_then, out_nx, out_rt, ev_bind, ev_pure, ev_ofOpt, ev_noExc, ev_alloc, ev_need, ev_ite', List.map, List.replicate, List.length, List.cons_append, List.nil_append, envGet, envSet, envDels, envDel, Option.some.injEq, exists_eq_left', Lit.val])
      rw [ev_idxT (show L2.atI _ 1 = some _ from at_pair), ev_idxT (show L2.atI _ 3 = some _ from at_3), ev_idxT (show L2.atI _ 2 = some _ from at_2), ev_idxT (show L2.atI _ 0 = some _ from at_zero)]
      refine ⟨_, rfl, mk2 (k := k) R rfl fin⟩
    | false =>
      rw [if_neg (by simp)]
      (simp only [evTs, evT, seqOf, evSs, evS, evE, evEs, evO, evK, evI, evD, out_then, out_nx, out_rt, ev_bind, ev_pure, ev_ofOpt, ev_noExc, ev_alloc, ev_need, ev_ite', List.map, List.replicate, List.length, List.cons_append, List.nil_append, envGet, envSet, envDels, envDel, Option.some.injEq, exists_eq_left', Lit.val])
      rw [out_seq]
      (simp only [evTs, evT, seqOf, evSs, evS, evE, evEs, evO, evK, evI, evD, out_then, out_nx, out_rt, ev_bind, ev_pure, ev_ofOpt, ev_noExc, ev_alloc, ev_need, ev_ite', List.map, List.replicate, List.length, List.cons_append, List.nil_append, envGet, envSet, envDels, envDel, Option.some.injEq, exists_eq_left', Lit.val])
      rw [ev_idxT (show L2.atI _ 4 = some _ from at_4), ev_idxT (show L2.atI _ 2 = some _ from at_2), ev_idxT (show L2.atI _ 1 = some _ from at_pair), ev_idxT (show L2.atI _ 0 = some _ from at_zero), ev_idxT (show L2.atI _ 3 = some _ from at_3)]
      refine ⟨_, rfl, mk2 (k := k) R rfl fin⟩
theorem by_names_ok {k : Nat} {S : Store} {dk c m : Nat} {va vb vc vd ve : Val} {z : T5} (R : RightV va vb vc vd ve z) (D : Deck S dk c m) (hm : m < 2 ^ 40) : Ev (callF T fu (k + 4) 17 [.ref dk, .tup [va, vb, vc, vd, ve]] S) fun v S' => v = .ins 0 (F5 z) ∧ Deck S' dk c (m + 1) ∧ Fr S S' dk c := by
  have lt := D.lt
  obtain ⟨bt, h1, h2⟩ := eq_tail (S := S) R
  obtain ⟨t, hvb⟩ : ∃ t, vb = .int t := by obtain ⟨t, b, s, o, u, _, h, _⟩ := R; exact ⟨b, h⟩
  obtain ⟨u, hve⟩ : ∃ t, ve = .int t := by obtain ⟨t, b, s, o, u, _, _, _, _, h, _⟩ := R; exact ⟨u, h⟩
  have fin : ∀ v : Val, v = .ins 0 (F5 z) → v = .ins 0 (F5 z) ∧ Deck (swept S.length v S) dk c (m + 1) ∧ Fr S (swept S.length v S) dk c := fun v h => ⟨h, (D.up (by omega)).sweep lt.1 lt.2, (Fr.refl _ _ _).sweep⟩
  have A := fun I : Pd.Env → Store → Prop => names_fin (fu := fu) (k := k) (dk := dk) (I := I) (P := fun v S' => v = .ins 0 (F5 z) ∧ Deck (swept S.length v S') dk c (m + 1) ∧ Fr S (swept S.length v S') dk c) R (fin _ rfl)
  refine ev_call (d := f17) rfl rfl ?_
  show Out (evSs (T.C fu (k + 3)) fu f17.body [some (.ref dk), some (.tup [va, vb, vc, vd, ve])] S) _ _
  unfold f17
  dsimp only
  rw [evSs]
  rw [out_seq]
  refine Out.imp (I := fun e S' => e = [some (.ref dk), some (.tup [va, vb, vc, vd, ve])] ∧ S' = S) ?_ (fun e S' h => by rw [h.1, h.2]; exact A _) (fun _ _ h => h)
  clear A
  (simp only [evTs, evT, seqOf, evSs, evS, evE, evEs, evO, evK, evI, evD, out_then, out_nx, out_rt, ev_bind, ev_pure, ev_ofOpt, ev_noExc, ev_alloc, ev_need, ev_ite', List.map, List.replicate, List.length, List.cons_append, List.nil_append, envGet, envSet, envDels, envDel, Option.some.injEq, exists_eq_left', Lit.val])
  rw [slc_tup, cut2]
  refine ⟨by first | rfl | trivial, ?_⟩
  rw [ev_eq h1, ev_tb]
  cases bt with
  | false =>
    rw [if_neg (by simp), ev_tb, if_neg (by simp), out_nx]
    exact ⟨rfl, rfl⟩
  | true =>
    obtain ⟨rfl, rfl, rfl⟩ := h2 rfl
    rw [if_pos (by rfl), ev_idxT (show L2.atI _ 1 = some _ from at_pair)]
    refine eq_one hvb fun b hb => ?_
    rw [ev_tb]
    cases b with
    | false =>
      rw [if_neg (by simp), out_nx]
      exact ⟨rfl, rfl⟩
    | true =>
      have := hb rfl
      subst this
      rw [if_pos (by rfl), out_seq]
      (simp only [evTs, evT, seqOf, evSs, evS, evE, evEs, evO, evK, evI, evD, out_then, out_nx, out_rt, ev_bind, ev_pure, ev_ofOpt, ev_noExc, ev_alloc, ev_need, ev_ite', List.map, List.replicate, List.length, List.cons_append, List.nil_append, envGet, envSet, envDels, envDel, Option.some.injEq, exists_eq_left', Lit.val])
      rw [ev_idxT (show L2.atI _ 0 = some _ from at_zero)]
      refine ⟨_, rfl, mk2 (k := k) R rfl ?_⟩
      rw [ev_idxT (show L2.atI _ 0 = some _ from at_zero)]
      refine ⟨_, rfl, mk2 (k := k) R rfl ?_⟩
      refine ⟨by first | rfl | trivial, ?_⟩
      refine (draw_ok (k := k + 2) (D.old (Old.snoc (x := Cell.lst [Val.ins 0 (F5 z), .ins 0 (F5 z)]))) (by omega) (by decide) (by decide)).imp fun v S1 r => ?_
      obtain ⟨y, rfl, y0, y1, D1, F1⟩ := r
      obtain ⟨x, ex, hx⟩ := atI_mem (l := [Val.ins 0 (F5 z), .ins 0 (F5 z)]) y0 (by simpa using y1)
      rw [ev_idxL (F1.new lt) ex]
      have hx : x = .ins 0 (F5 z) := by
        rcases List.mem_cons.mp hx with h | h
        · exact h
        · rcases List.mem_cons.mp h with h | h
          · exact h
          · cases h
      exact ⟨hx, D1.sweep lt.1 lt.2, (Fr.snoc.trans F1).sweep⟩
end K00

namespace K00
open PySem L2 Pd
open scoped Classical
variable {fu : Nat} [Big fu]
/-! ### told -/
def refV : Val := .tup [.str (Str.ofString "refused"), .bl true]
theorem suite_ref {v w : Val} {S : Store} {b : Option Val} : tidy 2 (evXSs T.xs noEx (.cons (.set 3 (.isi [7, 8, 9, 10, 11, 12, 13, 14, 15, 16])) (.cons (.set 3 (.or (.var 3) (.isi [3, 4, 5, 6]))) (.cons (.set 1 (.tup [(.lit (.str "refused")), (.and (.isi1 2) (.and (.isi1 1) (.not (.var 3))))])) .nil))) [some v, some w, none, b] S) = .nx [some v, some refV, none, some (.bl false)] S := rfl
theorem ref_short : ∀ v ∈ [Val.str (Str.ofString "refused"), .bl true], Short v 60 := by
  intro v hv
  simp only [List.mem_cons, List.not_mem_nil, or_false] at hv
  rcases hv with rfl | rfl
  · exact short_str (by decide +kernel) (by decide)
  · exact ⟨rfl, by simp [vdep], by simp [toD, PyData.weight], rfl, rfl⟩
theorem ev_reprR {S : Store} {Q : Val → Store → Prop} : Ev (biV .repr [refV] S) Q = Q (.str (toD refV).shown) S := ev_reprT ref_short (by show 2 * 61 ≤ 2 ^ 20; omega)
theorem told_any {k : Nat} {S : Store} {va vb vc vd ve : Val} {u : Val} (hr : ∀ S Q, Ev (biV .repr [u] S) Q = Q (.str (toD u).shown) S)
    (h : EvX (callF T fu (k + 4) 14 [.tup [va, vb, vc, vd, ve]] S) (fun v S' => (Ev (callF T fu (k + 4) 15 [v] S') fun v S' => v = u ∧ Old S S')) (fun e S' => e = noEx ∧ u = refV ∧ Old S S')) : Ev (callF T fu (k + 5) 21 [.tup [va, vb, vc, vd, ve]] S) fun v S' => v = .str (toD u).shown ∧ Old S S' := by
  refine ev_call (d := f21) rfl rfl ?_
  simp only [f21, evSs]
  rw [out_seq, out_set]
  simp only [evE, evEs, ev_bind, ev_pure, ev_need, List.map, List.length, List.replicate, List.cons_append, List.nil_append, Lit.val]
  rw [out_seq]
  refine out_try ?_
  simp only [evSs, evS, evE, evEs]
  rw [outx_seq]
  refine outx_thenX ?_
  simp only [evx_bind, evx_pure, evx_ofOpt, envGet, envSet, List.map, List.cons_append, List.nil_append, List.replicate, Option.some.injEq, exists_eq_left', Lit.val]
  refine h.imp (fun v S' hv => ?_) (fun e S' he => ?_)
  · refine evx_ok (hv.imp fun w S2 q => ?_)
    have hw := q.1
    have o := q.2
    clear q
    subst hw
    show OutX (RS.nx _ _) _ _ _
    rw [outx_nx, outx_nx]
    rw [out_seq]
    (simp only [evTs, evT, seqOf, evSs, evS, evE, evEs, evO, evK, evI, evD, out_then, out_nx, out_rt, ev_bind, ev_pure, ev_ofOpt, ev_noExc, ev_alloc, ev_need, ev_ite', List.map, List.replicate, List.length, List.cons_append, List.nil_append, envGet, envSet, envDels, envDel, Option.some.injEq, exists_eq_left', Lit.val])
    rw [hr]
    exact ⟨rfl, o.sweep⟩
  · obtain ⟨rfl, rfl, o⟩ := he
    refine ⟨rfl, by simp, rfl, ?_⟩
    show Out (tidy 2 (evXSs T.xs noEx _ [some (.tup [va, vb, vc, vd, ve]), some .non, none, none] S')) _ _
    rw [suite_ref, out_nx, out_seq]
    (simp only [evTs, evT, seqOf, evSs, evS, evE, evEs, evO, evK, evI, evD, out_then, out_nx, out_rt, ev_bind, ev_pure, ev_ofOpt, ev_noExc, ev_alloc, ev_need, ev_ite', List.map, List.replicate, List.length, List.cons_append, List.nil_append, envGet, envSet, envDels, envDel, Option.some.injEq, exists_eq_left', Lit.val])
    rw [hr]
    exact ⟨rfl, o.sweep⟩
theorem told_ok {k : Nat} {S : Store} {va vb vc vd ve : Val} {z : T5} (R : RightV va vb vc vd ve z) (O : Due z) : Ev (callF T fu (k + 5) 21 [.tup [va, vb, vc, vd, ve]] S) fun v S' => v = .str (toD (.tup (F5 z))).shown ∧ Old S S' := by
  refine told_any (fun S Q => ev_reprF O) (evx_ok ((made_ok (k := k) R).imp fun v S1 q => ?_))
  have hv := q.1
  have o := q.2
  clear q
  subst hv
  exact (fields_ok (k := k + 3)).imp fun v S2 q => ⟨q.1, o.trans q.2⟩
theorem told_bad {k : Nat} {S : Store} {va vb vc vd ve : Val} (h : rightB va vb vc vd ve = false) : Ev (callF T fu (k + 5) 21 [.tup [va, vb, vc, vd, ve]] S) fun v S' => v = .str (toD refV).shown ∧ Old S S' :=
  told_any (fun S Q => ev_reprR) ((made_bad (k := k) h).imp (fun _ _ h => h.elim) fun e S' q => ⟨q.1, rfl, q.2⟩)
end K00

namespace K00
open PySem L2 Pd
open scoped Classical
variable {fu : Nat} [Big fu]
/-! ### bent -/
def Lim (l : List Val) : Prop := l.length = 5 ∧ ∀ i n, l[i]? = some (.int n) → i ≠ 2 → n.natAbs ≤ 2 ^ 20
def Odds (r1 r2 : Nat) : List Val := [.non, .bl true, .bl false, .str (Str.ofString "1"), .str (Str.ofString ""), .tup [], .tup [.int 1], .ref r1, .ref r2, .int (-1), .int 0, .int 2, .int (-2)]
theorem odds_lim {r1 r2 : Nat} : ∀ x ∈ Odds r1 r2, ∀ n, x = .int n → n.natAbs ≤ 2 ^ 20 := by
  intro x hx n h
  subst h
  simp [Odds] at hx
  omega
theorem lim_set {l : List Val} (h5 : l.length = 5) (lb : ∀ (i : Nat) (n : Int), l[i]? = some (.int n) → i ≠ 2 → n.natAbs ≤ 2 ^ 20) {a : Nat} {x : Val} (ha : a < 5) (hx : ∀ n, x = .int n → a ≠ 2 → n.natAbs ≤ 2 ^ 20) : Lim (l.take a ++ [x] ++ l.drop (a + 1)) := by
  refine ⟨by simp; omega, fun i n hi h2 => ?_⟩
  have key : (l.take a ++ [x] ++ l.drop (a + 1)) = l.set a x := by
    rw [List.set_eq_take_append_cons_drop, if_pos (by omega)]
    simp
  rw [key, List.getElem?_set] at hi
  split at hi
  · rename_i h
    subst h
    split at hi
    · injection hi with hi
      exact hx n hi h2
    · cases hi
  · exact lb i n hi h2
theorem right_1 : RightV (.int 1) (.int 1) (.int 0) (.int 0) (.int 1) (1, 1, 0, 0, 1) := ⟨1, 1, 0, 0, 1, rfl, rfl, rfl, rfl, rfl, ⟨by decide, by decide, by decide, by decide⟩, ⟨by decide, by decide, by decide, by decide⟩, by decide +kernel⟩
set_option maxHeartbeats 2000000 in
theorem odd_ok {k : Nat} {S : Store} {d c m : Nat} {l : List Val} (L : Lim l) (D : Deck S d c m) (hm : m < 2 ^ 40) : Ev (callF T fu (k + 4) 20 [.ref d, .tup l] S) fun v S' => ∃ l', v = .tup l' ∧ Lim l' ∧ Deck S' d c (m + 2) ∧ Fr S S' d c := by
  have lt := D.lt
  obtain ⟨l5, lb⟩ := L
  (refine ev_call (d := f20) rfl rfl ?_; simp only [f20, evTs, evT, seqOf, evSs, evS, evE, evEs, evO, evK, evI, evD, out_then, out_nx, out_rt, ev_bind, ev_pure, ev_ofOpt, ev_noExc, ev_alloc, ev_need, ev_ite', List.map, List.replicate, List.length, List.cons_append, List.nil_append, envGet, envSet, envDels, envDel, Option.some.injEq, exists_eq_left', Lit.val])
  rw [out_seq]
  (simp only [evTs, evT, seqOf, evSs, evS, evE, evEs, evO, evK, evI, evD, out_then, out_nx, out_rt, ev_bind, ev_pure, ev_ofOpt, ev_noExc, ev_alloc, ev_need, ev_ite', List.map, List.replicate, List.length, List.cons_append, List.nil_append, envGet, envSet, envDels, envDel, Option.some.injEq, exists_eq_left', Lit.val])
  refine (draw_ok (k := k + 2) D (by omega) (by decide) (by decide)).imp fun v S1 q => ?_
  obtain ⟨at_, rfl, a0, a1, D1, F1⟩ := q
  obtain ⟨a, rfl⟩ := Int.eq_ofNat_of_zero_le a0
  have ha : a < l.length := by omega
  have ea := List.getElem?_eq_getElem ha
  generalize l[a] = va at ea
  rw [out_seq]
  refine Out.imp (I := fun e S' => (∃ w, e = [some (.ref d), some (.tup l), some (.int (a : Nat)), some w, none, none] ∧ ∀ n, w = .int n → a ≠ 2 → n.natAbs ≤ 2 ^ 20) ∧ S' = S1) ?_ (fun e S' h => ?_) (fun _ _ h => h)
  · (simp only [evTs, evT, seqOf, evSs, evS, evE, evEs, evO, evK, evI, evD, out_then, out_nx, out_rt, ev_bind, ev_pure, ev_ofOpt, ev_noExc, ev_alloc, ev_need, ev_ite', List.map, List.replicate, List.length, List.cons_append, List.nil_append, envGet, envSet, envDels, envDel, Option.some.injEq, exists_eq_left', Lit.val])
    rw [ev_idxT (atI_nat ea), ev_isin, int_ty, ev_tb]
    cases h1 : isI va with
    | true =>
      rw [Bool.true_or, if_pos (by rfl), ev_idxT (atI_nat ea)]
      obtain ⟨n, rfl⟩ : ∃ n, va = .int n := by cases va <;> first | exact ⟨_, rfl⟩ | cases h1
      rw [ev_sub]
      refine ⟨⟨_, rfl, fun j hj h2 => ?_⟩, rfl⟩
      injection hj with hj
      have := lb a n ea h2
      omega
    | false =>
      cases h2 : isB va with
      | true =>
        rw [Bool.false_or, if_pos (by rfl), ev_idxT (atI_nat ea)]
        obtain ⟨b, rfl⟩ : ∃ n, va = .bl n := by cases va <;> first | exact ⟨_, rfl⟩ | cases h2
        rw [show Ev (binV .sub (.int 0) (.bl b) S1) = Ev ((pure (.int (0 - PyProof.Rows.b2i b)) : M Val) S1) from rfl, ev_pure]
        refine ⟨⟨_, rfl, fun j hj h2 => ?_⟩, rfl⟩
        injection hj with hj
        subst hj
        cases b <;> decide
      | false =>
        rw [Bool.false_or, if_neg (by simp)]
        refine ⟨⟨_, rfl, fun j hj h2 => ?_⟩, rfl⟩
        injection hj with hj
        subst hj
        decide
  obtain ⟨⟨w, he, hw⟩, hS⟩ := h
  subst he
  subst hS
  rw [out_seq]
  refine Out.imp (I := fun e S1 => (∃ f, e = [some (.ref d), some (.tup l), some (.int (a : Nat)), some w, some f, none] ∧ ∀ n, f = .int n → a ≠ 2 → n.natAbs ≤ 2 ^ 20) ∧ S1 = S') ?_ (fun e S1 h => ?_) (fun _ _ h => h)
  · (simp only [evTs, evT, seqOf, evSs, evS, evE, evEs, evO, evK, evI, evD, out_then, out_nx, out_rt, ev_bind, ev_pure, ev_ofOpt, ev_noExc, ev_alloc, ev_need, ev_ite', List.map, List.replicate, List.length, List.cons_append, List.nil_append, envGet, envSet, envDels, envDel, Option.some.injEq, exists_eq_left', Lit.val])
    rw [ev_eqI, ev_tb]
    by_cases h2 : (a : Int) = 2
    · rw [decide_eq_true h2, if_pos (by rfl), ev_pow (by decide)]
      exact ⟨⟨_, rfl, fun j hj h3 => absurd h2 (by omega)⟩, rfl⟩
    · rw [decide_eq_false h2, if_neg (by simp)]
      refine ⟨⟨_, rfl, fun j hj h3 => ?_⟩, rfl⟩
      injection hj with hj
      subst hj
      decide
  obtain ⟨⟨f, he, hf⟩, hS⟩ := h
  subst he
  subst hS
  rw [out_seq]
  (simp only [evTs, evT, seqOf, evSs, evS, evE, evEs, evO, evK, evI, evD, out_then, out_nx, out_rt, ev_bind, ev_pure, ev_ofOpt, ev_noExc, ev_alloc, ev_need, ev_ite', List.map, List.replicate, List.length, List.cons_append, List.nil_append, envGet, envSet, envDels, envDel, Option.some.injEq, exists_eq_left', Lit.val])
  refine ⟨by first | rfl | trivial, by first | rfl | trivial, ?_⟩
  refine ⟨by first | rfl | trivial, by first | rfl | trivial, ?_⟩
  have D2 := (D1.old (Old.snoc (x := .lst []))).old (Old.snoc (x := .dct (mergeV [] [])))
  have F2 := F1.trans ((Fr.snoc (x := .lst [])).trans (Fr.snoc (x := .dct (mergeV [] []))))
  generalize (S1 ++ [Cell.lst []]).length = r2
  generalize S1.length = r1
  generalize S1 ++ [Cell.lst []] ++ [Cell.dct (mergeV [] [])] = S2 at D2 F2 ⊢
  rw [show [Val.non, Val.bl true, Val.bl false, Val.str (Str.ofString "1"), Val.str (Str.ofString ""), Val.tup [], Val.tup [Val.int 1], Val.ref r1, Val.ref r2, Val.int (-1), Val.int 0, Val.int 2, Val.int (-2)] = Odds r1 r2 from rfl]
  have lt2 := D2.lt
  have e3 : (S2 ++ [Cell.lst (Odds r1 r2)])[S2.length]? = some (.lst (Odds r1 r2)) := snoc_new
  have D3 := D2.old (Old.snoc (x := .lst (Odds r1 r2)))
  have F3 := F2.trans (Fr.snoc (x := .lst (Odds r1 r2)))
  have ho := odds_lim (r1 := r1) (r2 := r2)
  have hl : (Odds r1 r2).length = 13 := rfl
  generalize Odds r1 r2 = O at *
  generalize S2 ++ [Cell.lst O] = S3 at e3 D3 F3 ⊢
  generalize S2.length = i3 at *
  rw [out_seq]
  (simp only [evTs, evT, seqOf, evSs, evS, evE, evEs, evO, evK, evI, evD, out_then, out_nx, out_rt, ev_bind, ev_pure, ev_ofOpt, ev_noExc, ev_alloc, ev_need, ev_ite', List.map, List.replicate, List.length, List.cons_append, List.nil_append, envGet, envSet, envDels, envDel, Option.some.injEq, exists_eq_left', Lit.val])
  refine ⟨_, rfl, mk2 (k := k) right_1 rfl ?_⟩
  refine ⟨by first | rfl | trivial, ?_⟩
  rw [ev_catL (snoc_old e3) snoc_new (by rw [hl]; show 16 ≤ sizeMax; decide)]
  have e4 : (S3 ++ [Cell.lst [f, w, .ins 0 (F5 (1, 1, 0, 0, 1))]] ++ [Cell.lst (O ++ [f, w, .ins 0 (F5 (1, 1, 0, 0, 1))])])[(S3 ++ [Cell.lst [f, w, .ins 0 (F5 (1, 1, 0, 0, 1))]]).length]? = some (.lst (O ++ [f, w, .ins 0 (F5 (1, 1, 0, 0, 1))])) := snoc_new
  have D4 := (D3.old (Old.snoc (x := .lst [f, w, .ins 0 (F5 (1, 1, 0, 0, 1))]))).old (Old.snoc (x := .lst (O ++ [f, w, .ins 0 (F5 (1, 1, 0, 0, 1))])))
  have F4 := F3.trans ((Fr.snoc (x := .lst [f, w, .ins 0 (F5 (1, 1, 0, 0, 1))])).trans (Fr.snoc (x := .lst (O ++ [f, w, .ins 0 (F5 (1, 1, 0, 0, 1))]))))
  have lt4 := (D3.old (Old.snoc (x := .lst [f, w, .ins 0 (F5 (1, 1, 0, 0, 1))]))).lt
  generalize S3 ++ [Cell.lst [f, w, .ins 0 (F5 (1, 1, 0, 0, 1))]] ++ [Cell.lst (O ++ [f, w, .ins 0 (F5 (1, 1, 0, 0, 1))])] = S4 at *
  generalize (S3 ++ [Cell.lst [f, w, .ins 0 (F5 (1, 1, 0, 0, 1))]]).length = r4 at *
  rw [out_seq]
  (simp only [evTs, evT, seqOf, evSs, evS, evE, evEs, evO, evK, evI, evD, out_then, out_nx, out_rt, ev_bind, ev_pure, ev_ofOpt, ev_noExc, ev_alloc, ev_need, ev_ite', List.map, List.replicate, List.length, List.cons_append, List.nil_append, envGet, envSet, envDels, envDel, Option.some.injEq, exists_eq_left', Lit.val])
  rw [slc_tup, cut_to]
  refine (draw_ok (k := k + 2) D4 (by omega) (by decide) (by decide)).imp fun v S5 q => ?_
  obtain ⟨z, rfl, z0, z1, D5, F5_⟩ := q
  obtain ⟨x, ex, hx⟩ := atI_mem (l := O ++ [f, w, .ins 0 (F5 (1, 1, 0, 0, 1))]) z0 (by rw [List.length_append, hl]; simpa using z1)
  rw [ev_idxL (F5_.at e4 (by omega) (by omega)) ex]
  refine ⟨by first | rfl | trivial, ?_⟩
  rw [ev_catT (by simp [sizeMax]; omega), ev_add, show ((a : Int) + 1) = ((a + 1 : Nat) : Int) by omega]
  (simp only [evTs, evT, seqOf, evSs, evS, evE, evEs, evO, evK, evI, evD, out_then, out_nx, out_rt, ev_bind, ev_pure, ev_ofOpt, ev_noExc, ev_alloc, ev_need, ev_ite', List.map, List.replicate, List.length, List.cons_append, List.nil_append, envGet, envSet, envDels, envDel, Option.some.injEq, exists_eq_left', Lit.val])
  rw [slc_tup, cut_from, ev_catT (by simp [sizeMax]; omega)]
  refine ⟨_, rfl, lim_set l5 lb (by omega) ?_, D5.sweep lt.1 lt.2, (F4.trans F5_).sweep⟩
  intro n hn h2
  rcases List.mem_append.mp hx with h | h
  · exact ho x h n hn
  · simp only [List.mem_cons, List.not_mem_nil, or_false] at h
    rcases h with rfl | rfl | rfl
    · exact hf n hn h2
    · exact hw n hn h2
    · cases hn
end K00

namespace K00
open PySem L2 Pd
open scoped Classical
variable {fu : Nat} [Big fu]
/-! ### a turn -/
def sB : IS := (.for_ (.name 6) (.val (.tup (.cons (.call 14 (.cons (.var 5) .nil)) (.cons (.call 17 (.cons (.var 1) (.cons (.var 5) .nil))) (.cons (.call 17 (.cons (.var 1) (.cons (.var 4) .nil))) (.cons (.call 14 (.cons (.var 4) .nil)) .nil))))))
    (.cons (.ife (.not (.call 16 (.cons (.var 6) (.cons (.var 4) .nil))))
    (.cons (.ret (.lit (.bl false)))
    .nil)
    .nil)
    .nil))
structure EvS {α : Type} (r : Res α) (Q : α → Store → Prop) : Prop where
  g : Ev r Q
theorem made_S {k : Nat} {S : Store} {va vb vc vd ve : Val} {z : T5} (R : RightV va vb vc vd ve z) : EvS (callF T fu (k + 4) 14 [.tup [va, vb, vc, vd, ve]] S) fun v S' => v = .ins 0 (F5 z) ∧ Old S S' := ⟨made_ok R⟩
theorem names_S {k : Nat} {S : Store} {d c m : Nat} {va vb vc vd ve : Val} {z : T5} (R : RightV va vb vc vd ve z) (D : Deck S d c m) (hm : m < 2 ^ 40) : EvS (callF T fu (k + 4) 17 [.ref d, .tup [va, vb, vc, vd, ve]] S) fun v S' => v = .ins 0 (F5 z) ∧ Deck S' d c (m + 1) ∧ Fr S S' d c := ⟨by_names_ok R D hm⟩
theorem form_S {k : Nat} {S : Store} {t b s o u : Int} (F : Five t b s o u) (B : Bd t b o u) : EvS (callF T fu (k + 3) 11 [.int t, .int b, .int s, .int o, .int u] S) fun v S' => v = .tup (F5 (form t b s o u)) ∧ Old S S' := ⟨law_form_ok F B⟩
theorem made_F {k : Nat} {S : Store} {z : T5} {l : List Val} (hl : F5 z = l) (O : Due z) : Ev (callF T fu (k + 4) 14 [.tup l] S) fun v S' => v = .ins 0 l ∧ Old S S' := by
  have h := made_S (fu := fu) (k := k) (S := S) O.right
  rw [hl, show [Val.int z.1, .int z.2.1, .int z.2.2.1, .int z.2.2.2.1, .int z.2.2.2.2] = l from hl] at h
  exact h.g
theorem names_F {k : Nat} {S : Store} {d c m : Nat} {z : T5} {l : List Val} (hl : F5 z = l) (O : Due z) (D : Deck S d c m) (hm : m < 2 ^ 40) : Ev (callF T fu (k + 4) 17 [.ref d, .tup l] S) fun v S' => v = .ins 0 l ∧ Deck S' d c (m + 1) ∧ Fr S S' d c := by
  have h := names_S (fu := fu) (k := k) (S := S) O.right D hm
  rw [hl, show [Val.int z.1, .int z.2.1, .int z.2.2.1, .int z.2.2.2.1, .int z.2.2.2.2] = l from hl] at h
  exact h.g
theorem form_R {k : Nat} {S : Store} {va vb vc vd ve : Val} {z : T5} (R : RightV va vb vc vd ve z) : EvS (callF T fu (k + 3) 11 [va, vb, vc, vd, ve] S) fun v S' => v = .tup (F5 z) ∧ Old S S' := by
  obtain ⟨t, b, s, o, u, rfl, rfl, rfl, rfl, rfl, F, B, hf⟩ := R
  have h := form_S (fu := fu) (k := k) (S := S) F B
  rw [hf] at h
  exact h
theorem Org.abs {x : T5} (O : Org x) : ∃ va vb vc vd ve, F5 x = [va, vb, vc, vd, ve] ∧ RightV va vb vc vd ve (fm x) := ⟨_, _, _, _, _, rfl, O.right⟩
theorem Org.lim {x : T5} (O : Org x) : Lim (F5 x) := by
  have ht := O.t
  have hb := O.b
  have ho := O.o
  have hu := O.u
  have f1 := O.f.b
  have f2 := O.f.o
  have f3 := O.f.u
  refine ⟨rfl, fun i n hi h2 => ?_⟩
  match i, hi with
  | 0, hi => cases hi; exact ht
  | 1, hi => cases hi; omega
  | 2, hi => exact absurd rfl h2
  | 3, hi => cases hi; omega
  | 4, hi => cases hi; omega
  | _ + 5, hi => cases hi
theorem built_ok {k : Nat} {S : Store} {d c m : Nat} {z : T5} {va vb vc vd ve : Val} {b0 b2 b3 b6 b7 b8 b9 b10 : Option Val} {R : Val → Store → Prop} (D : Deck S d c m) (hm : m < 2 ^ 30) (O : Due z) (H : RightV va vb vc vd ve z) :
    Out (evS (T.C fu (k + 4)) fu sB [b0, some (.ref d), b2, b3, some (.tup (F5 z)), some (.tup [va, vb, vc, vd, ve]), b6, b7, b8, b9, b10] S) (fun e S' => (∃ b6, e = [b0, some (.ref d), b2, b3, some (.tup (F5 z)), some (.tup [va, vb, vc, vd, ve]), b6, b7, b8, b9, b10]) ∧ Deck S' d c (m + 2)) R := by
  have h1 := fun S => made_S (fu := fu) (k := k) (S := S) H
  have h2 := fun S m D hm => names_S (fu := fu) (k := k) (S := S) (d := d) (c := c) (m := m) H D hm
  have h5 := fun S l (hl : F5 z = l) => show EvS (callF T fu (k + 4) 16 [.ins 0 l, .tup l] S) (fun v S' => v = .bl true ∧ Old S S') from ⟨hl ▸ is_ok (fu := fu) (k := k + 2) (S := S) O⟩
  generalize hl : F5 z = l at h1 h2 ⊢
  simp only [sB]
  (simp only [evTs, evT, seqOf, evSs, evS, evE, evEs, evO, evK, evI, evD, out_then, out_nx, out_rt, ev_bind, ev_pure, ev_ofOpt, ev_noExc, ev_alloc, ev_need, ev_ite', List.map, List.replicate, List.length, List.cons_append, List.nil_append, envGet, envSet, envDels, envDel, Option.some.injEq, exists_eq_left', Lit.val])
  refine (h1 S).g.imp fun v S1 q => ?_
  obtain ⟨rfl, o1⟩ := q
  refine (h2 S1 m (D.old o1) (by omega)).g.imp fun v S2 q => ?_
  obtain ⟨rfl, D2, _⟩ := q
  refine (names_F (k := k) hl O D2 (by omega)).imp fun v S3 q => ?_
  obtain ⟨rfl, D3, _⟩ := q
  refine (made_F (k := k) hl O).imp fun v S4 q => ?_
  obtain ⟨rfl, o4⟩ := q
  refine ⟨by first | rfl | trivial, ?_⟩
  rw [ev_srcT]
  refine out_loop (xs := [.ins 0 l, .ins 0 l, .ins 0 l, .ins 0 l]) (fun _ x => x) (fun j e S' => (∃ b6, e = [b0, some (.ref d), b2, b3, some (.tup l), some (.tup [va, vb, vc, vd, ve]), b6, b7, b8, b9, b10]) ∧ Deck S' d c (m + 2)) rfl (fun j env S' _ => by show some [Val.ins 0 l, .ins 0 l, .ins 0 l, .ins 0 l][j]? = some (Option.map (fun x => x) _); rw [Option.map_id']) (fun j x env S' hx hJ => ?_) ⟨⟨_, rfl⟩, D3.old o4⟩ (fun env S' hJ => hJ)
  obtain ⟨⟨b, rfl⟩, D5⟩ := hJ
  have hx : x = .ins 0 l := by simpa using List.mem_of_getElem? hx
  subst hx
  refine ⟨_, rfl, ?_⟩
  (simp only [evTs, evT, seqOf, evSs, evS, evE, evEs, evO, evK, evI, evD, out_then, out_nx, out_rt, ev_bind, ev_pure, ev_ofOpt, ev_noExc, ev_alloc, ev_need, ev_ite', List.map, List.replicate, List.length, List.cons_append, List.nil_append, envGet, envSet, envDels, envDel, Option.some.injEq, exists_eq_left', Lit.val])
  rw [out_seq]
  (simp only [evTs, evT, seqOf, evSs, evS, evE, evEs, evO, evK, evI, evD, out_then, out_nx, out_rt, ev_bind, ev_pure, ev_ofOpt, ev_noExc, ev_alloc, ev_need, ev_ite', List.map, List.replicate, List.length, List.cons_append, List.nil_append, envGet, envSet, envDels, envDel, Option.some.injEq, exists_eq_left', Lit.val])
  refine (h5 S' l hl).g.imp fun v S6 q => ?_
  obtain ⟨rfl, o6⟩ := q
  rw [ev_tb, ev_tb, Bool.not_true, if_neg (by simp), out_nx]
  exact ⟨⟨_, rfl⟩, D5.old o6⟩
def sT : IS := (.for_ (.name 8) (.val (.tup (.cons (.var 7) (.cons (.call 20 (.cons (.var 1) (.cons (.var 7) .nil))) (.cons (.var 5) .nil)))))
    (.cons (.set 9 (.tup (.cons (.lit (.str "refused")) (.cons (.lit (.bl true)) .nil))))
    (.cons (.ife (.call 18 (.cons (.var 8) .nil))
    (.cons (.set 9 (.call 11 (.cons (.idx (.var 8) (.lit (.int 0))) (.cons (.idx (.var 8) (.lit (.int 1))) (.cons (.idx (.var 8) (.lit (.int 2))) (.cons (.idx (.var 8) (.lit (.int 3))) (.cons (.idx (.var 8) (.lit (.int 4))) .nil)))))))
    .nil)
    .nil)
    (.cons (.ife (.cmp .ne (.call 21 (.cons (.var 8) .nil)) (.bi .repr (.cons (.var 9) .nil)))
    (.cons (.ret (.lit (.bl false)))
    .nil)
    .nil)
    .nil))))
theorem lim_right {t b s o u : Int} (L : Lim [.int t, .int b, .int s, .int o, .int u]) (F : Five t b s o u) : Org (t, b, s, o, u) := by
  have h0 := L.2 0 t rfl (by decide)
  have h1 := L.2 1 b rfl (by decide)
  have h3 := L.2 3 o rfl (by decide)
  have h4 := L.2 4 u rfl (by decide)
  exact ⟨F, h0, by show b ≤ _; omega, by show o ≤ _; omega, by show u ≤ _; omega⟩
theorem lim_five {l : List Val} (L : Lim l) : ∃ a b c d e, l = [a, b, c, d, e] := by
  match l, L.1 with
  | [a, b, c, d, e], _ => exact ⟨a, b, c, d, e, rfl⟩
theorem theirs_ok {k : Nat} {S : Store} {d c m : Nat} {l l0 : List Val} {b0 b2 b3 b4 b6 b8 b9 b10 : Option Val} {R : Val → Store → Prop} (D : Deck S d c m) (hm : m < 2 ^ 30) (L : Lim l) (L0 : Lim l0) :
    Out (evS (T.C fu (k + 5)) fu sT [b0, some (.ref d), b2, b3, b4, some (.tup l0), b6, some (.tup l), b8, b9, b10] S) (fun e S' => (∃ b8 b9, e = [b0, some (.ref d), b2, b3, b4, some (.tup l0), b6, some (.tup l), b8, b9, b10]) ∧ Deck S' d c (m + 2)) R := by
  simp only [sT]
  (simp only [evTs, evT, seqOf, evSs, evS, evE, evEs, evO, evK, evI, evD, out_then, out_nx, out_rt, ev_bind, ev_pure, ev_ofOpt, ev_noExc, ev_alloc, ev_need, ev_ite', List.map, List.replicate, List.length, List.cons_append, List.nil_append, envGet, envSet, envDels, envDel, Option.some.injEq, exists_eq_left', Lit.val])
  refine (odd_ok (k := k + 1) L D (by omega)).imp fun v S1 q => ?_
  obtain ⟨l1, rfl, L1, D1, _⟩ := q
  refine ⟨by first | rfl | trivial, ?_⟩
  rw [ev_srcT]
  refine out_loop (xs := [.tup l, .tup l1, .tup l0]) (fun _ x => x) (fun j e S' => (∃ b8 b9, e = [b0, some (.ref d), b2, b3, b4, some (.tup l0), b6, some (.tup l), b8, b9, b10]) ∧ Deck S' d c (m + 2)) rfl (fun j env S' _ => by show some [Val.tup l, .tup l1, .tup l0][j]? = some (Option.map (fun x => x) _); rw [Option.map_id']) (fun j x env S' hx hJ => ?_) ⟨⟨_, _, rfl⟩, D1⟩ (fun env S' hJ => hJ)
  obtain ⟨⟨b8, b9, rfl⟩, D5⟩ := hJ
  obtain ⟨lx, hlx, LX⟩ : ∃ lx, x = .tup lx ∧ Lim lx := by
    have hx := List.mem_of_getElem? hx
    simp only [List.mem_cons, List.not_mem_nil, or_false] at hx
    rcases hx with rfl | rfl | rfl
    · exact ⟨_, rfl, L⟩
    · exact ⟨_, rfl, L1⟩
    · exact ⟨_, rfl, L0⟩
  subst hlx
  refine ⟨_, rfl, ?_⟩
  obtain ⟨va, vb, vc, vd, ve, rfl⟩ := lim_five LX
  clear hx L1 D1
  (simp only [evTs, evT, seqOf, evSs, evS, evE, evEs, evO, evK, evI, evD, out_then, out_nx, out_rt, ev_bind, ev_pure, ev_ofOpt, ev_noExc, ev_alloc, ev_need, ev_ite', List.map, List.replicate, List.length, List.cons_append, List.nil_append, envGet, envSet, envDels, envDel, Option.some.injEq, exists_eq_left', Lit.val])
  rw [out_seq]
  (simp only [evTs, evT, seqOf, evSs, evS, evE, evEs, evO, evK, evI, evD, out_then, out_nx, out_rt, ev_bind, ev_pure, ev_ofOpt, ev_noExc, ev_alloc, ev_need, ev_ite', List.map, List.replicate, List.length, List.cons_append, List.nil_append, envGet, envSet, envDels, envDel, Option.some.injEq, exists_eq_left', Lit.val])
  refine ⟨by first | rfl | trivial, ?_⟩
  rw [out_seq]
  (simp only [evTs, evT, seqOf, evSs, evS, evE, evEs, evO, evK, evI, evD, out_then, out_nx, out_rt, ev_bind, ev_pure, ev_ofOpt, ev_noExc, ev_alloc, ev_need, ev_ite', List.map, List.replicate, List.length, List.cons_append, List.nil_append, envGet, envSet, envDels, envDel, Option.some.injEq, exists_eq_left', Lit.val])
  refine (is_right_ok (k := k + 4)).imp fun v S6 q => ?_
  have hv := q.1
  have o6 := q.2
  clear q
  subst hv
  rw [ev_tb]
  cases hr : rightB va vb vc vd ve with
  | false =>
    rw [if_neg (by simp), out_nx, out_seq]
    (simp only [evTs, evT, seqOf, evSs, evS, evE, evEs, evO, evK, evI, evD, out_then, out_nx, out_rt, ev_bind, ev_pure, ev_ofOpt, ev_noExc, ev_alloc, ev_need, ev_ite', List.map, List.replicate, List.length, List.cons_append, List.nil_append, envGet, envSet, envDels, envDel, Option.some.injEq, exists_eq_left', Lit.val])
    refine (told_bad (k := k) hr).imp fun v S7 q => ?_
    have hv := q.1
    have o7 := q.2
    clear q
    subst hv
    rw [show Val.tup [Val.str (Str.ofString "refused"), Val.bl true] = refV from rfl, ev_reprR, ev_neS, decide_eq_true rfl, ev_tb, Bool.not_true, if_neg (by simp), out_nx]
    exact ⟨⟨_, _, rfl⟩, (D5.old o6).old o7⟩
  | true =>
    rw [if_pos (by rfl), out_seq]
    obtain ⟨z, H, O⟩ : ∃ z, RightV va vb vc vd ve z ∧ Due z := by
      obtain ⟨t, b, s, o, u, rfl, rfl, rfl, rfl, rfl, F⟩ := right_five hr
      have O := lim_right LX F
      exact ⟨_, O.right, O.due⟩
    (simp only [evTs, evT, seqOf, evSs, evS, evE, evEs, evO, evK, evI, evD, out_then, out_nx, out_rt, ev_bind, ev_pure, ev_ofOpt, ev_noExc, ev_alloc, ev_need, ev_ite', List.map, List.replicate, List.length, List.cons_append, List.nil_append, envGet, envSet, envDels, envDel, Option.some.injEq, exists_eq_left', Lit.val])
    rw [ev_idxT (show L2.atI _ 0 = some _ from at_zero), ev_idxT (show L2.atI _ 1 = some _ from at_pair), ev_idxT (show L2.atI _ 2 = some _ from at_2), ev_idxT (show L2.atI _ 3 = some _ from at_3), ev_idxT (show L2.atI _ 4 = some _ from at_4)]
    refine (form_R (k := k + 2) H).g.imp fun v S7 q => ?_
    have hv := q.1
    have o7 := q.2
    clear q
    subst hv
    rw [out_seq]
    (simp only [evTs, evT, seqOf, evSs, evS, evE, evEs, evO, evK, evI, evD, out_then, out_nx, out_rt, ev_bind, ev_pure, ev_ofOpt, ev_noExc, ev_alloc, ev_need, ev_ite', List.map, List.replicate, List.length, List.cons_append, List.nil_append, envGet, envSet, envDels, envDel, Option.some.injEq, exists_eq_left', Lit.val])
    refine (told_ok (k := k) H O).imp fun v S8 q => ?_
    have hv := q.1
    have o8 := q.2
    clear q
    subst hv
    rw [ev_reprF O, ev_neS, decide_eq_true rfl, ev_tb, Bool.not_true, if_neg (by simp), out_nx]
    exact ⟨⟨_, _, rfl⟩, ((D5.old o6).old o7).old o8⟩
end K00

namespace K00
open PySem L2 Pd
open scoped Classical
variable {fu : Nat} [Big fu]
/-! ### the law -/
def turnB : ISs := (.cons (.set 5 (.ife (.cmp .eq (.bin .mod (.var 2) (.lit (.int 5))) (.lit (.int 4))) (.call 19 (.cons (.var 1) .nil)) (.call 13 (.cons (.var 1) .nil))))
    (.cons (.set 4 (.call 11 (.cons (.idx (.var 5) (.lit (.int 0))) (.cons (.idx (.var 5) (.lit (.int 1))) (.cons (.idx (.var 5) (.lit (.int 2))) (.cons (.idx (.var 5) (.lit (.int 3))) (.cons (.idx (.var 5) (.lit (.int 4))) .nil)))))))
    (.cons sB
    (.cons (.set 7 (.call 20 (.cons (.var 1) (.cons (.var 5) .nil))))
    (.cons sT .nil)))))
def lastB : ISs := (.cons (.set 3 (.lst (.cons (.mk 0 5 (.cons (.lit (.int 0)) .nil) .nil) (.cons (.mk 0 7 (.cons (.lit (.int 3)) (.cons (.lit (.int 6)) .nil)) .nil) (.cons (.mk 0 6 (.cons (.lit (.int 0)) .nil) (.cons (.lit (.int 1)) (.cons (.lit (.int 2)) .nil))) (.cons (.mk 0 0 (.cons (.lit (.int 1)) (.cons (.lit (.int 2)) .nil)) (.cons (.neg (.lit (.int 1))) (.cons (.lit (.int 9)) (.cons (.lit (.int 4)) .nil)))) .nil))))))
    (.cons (.set 4 (.lst (.cons (.tup (.cons (.lit (.int 0)) (.cons (.lit (.int 1)) (.cons (.lit (.int 0)) (.cons (.lit (.int 0)) (.cons (.lit (.int 1)) .nil)))))) (.cons (.tup (.cons (.lit (.int 1)) (.cons (.lit (.int 2)) (.cons (.lit (.int 0)) (.cons (.lit (.int 0)) (.cons (.lit (.int 1)) .nil)))))) (.cons (.tup (.cons (.lit (.int 0)) (.cons (.lit (.int 1)) (.cons (.lit (.int 1)) (.cons (.lit (.int 2)) (.cons (.lit (.int 1)) .nil)))))) (.cons (.tup (.cons (.neg (.lit (.int 1))) (.cons (.lit (.int 1)) (.cons (.lit (.int 0)) (.cons (.lit (.int 0)) (.cons (.lit (.int 1)) .nil)))))) .nil))))))
    (.cons (.ret (.cmp .eq (.comp (.call 15 (.cons (.var 10) .nil)) [("one", 10)] (.name 10) (.val (.var 3)) .none) (.var 4)))
    .nil)))
def firstS : IS := .set 1 (.call 6 (.cons (.var 0) .nil))
theorem body_eq : f22.body = .cons firstS (.cons (.for_ (.name 2) (.range1 (.lit (.int 16))) turnB) lastB) := rfl
theorem Out.then {r : RS} {I I' : Pd.Env → Store → Prop} {R : Val → Store → Prop} (h : Out r I R) (f : ∀ e S, I e S → I' e S) : Out r I' R := h.imp f fun _ _ h => h
/-- one turn -/
theorem turn_ok {k : Nat} {S : Store} {d c m j : Nat} {b0 b3 b4 b5 b6 b7 b8 b9 b10 : Option Val} {R : Val → Store → Prop} (D : Deck S d c m) (hm : m < 2 ^ 20) :
    Out (evSs (T.C fu (k + 5)) fu turnB [b0, some (.ref d), some (.int j), b3, b4, b5, b6, b7, b8, b9, b10] S) (fun e S' => (∃ b2 b3 b4 b5 b6 b7 b8 b9 b10, e = [b0, some (.ref d), b2, b3, b4, b5, b6, b7, b8, b9, b10]) ∧ Deck S' d c (m + 100)) R := by
  unfold turnB
  rw [evSs, out_seq]
  refine Out.then (I := fun e S' => (∃ x, Org x ∧ e = [b0, some (.ref d), some (.int j), b3, b4, some (.tup (F5 x)), b6, b7, b8, b9, b10]) ∧ Deck S' d c (m + 20)) ?_ fun e S1 q => ?_
  · (simp only [evTs, evT, seqOf, evSs, evS, evE, evEs, evO, evK, evI, evD, out_then, out_nx, out_rt, ev_bind, ev_pure, ev_ofOpt, ev_noExc, ev_alloc, ev_need, ev_ite', List.map, List.replicate, List.length, List.cons_append, List.nil_append, envGet, envSet, envDels, envDel, Option.some.injEq, exists_eq_left', Lit.val])
    rw [ev_mod (by decide), ev_eqI, ev_tb]
    split
    · refine (great_ok (k := k + 3) D (by omega)).imp fun v S1 q => ?_
      obtain ⟨x, rfl, O, D1, _⟩ := q
      exact ⟨⟨x, O, rfl⟩, D1⟩
    · refine (five_ok (k := k + 2) D (by omega)).imp fun v S1 q => ?_
      obtain ⟨x, rfl, O, D1, _⟩ := q
      exact ⟨⟨x, O, rfl⟩, D1⟩
  obtain ⟨⟨x, O, rfl⟩, D1⟩ := q
  obtain ⟨va, vb, vc, vd, ve, hl, H⟩ := O.abs
  have L := O.lim
  have Z := O.due
  generalize F5 x = l at hl L ⊢
  subst hl
  generalize fm x = z at H Z
  clear O
  rw [evSs, out_seq]
  refine Out.then (I := fun e S' => e = [b0, some (.ref d), some (.int j), b3, some (.tup (F5 z)), some (.tup [va, vb, vc, vd, ve]), b6, b7, b8, b9, b10] ∧ Deck S' d c (m + 20)) ?_ fun e S2 q => ?_
  · (simp only [evTs, evT, seqOf, evSs, evS, evE, evEs, evO, evK, evI, evD, out_then, out_nx, out_rt, ev_bind, ev_pure, ev_ofOpt, ev_noExc, ev_alloc, ev_need, ev_ite', List.map, List.replicate, List.length, List.cons_append, List.nil_append, envGet, envSet, envDels, envDel, Option.some.injEq, exists_eq_left', Lit.val])
    rw [ev_idxT (show L2.atI _ 0 = some _ from at_zero), ev_idxT (show L2.atI _ 1 = some _ from at_pair), ev_idxT (show L2.atI _ 2 = some _ from at_2), ev_idxT (show L2.atI _ 3 = some _ from at_3), ev_idxT (show L2.atI _ 4 = some _ from at_4)]
    refine (form_R (k := k + 2) H).g.imp fun v S7 q => ?_
    obtain ⟨hv, o7⟩ := q
    subst hv
    exact ⟨rfl, D1.old o7⟩
  obtain ⟨rfl, D2⟩ := q
  rw [evSs, out_seq]
  refine Out.then (built_ok (k := k + 1) D2 (by omega) Z H) fun e S3 q => ?_
  obtain ⟨⟨b6', rfl⟩, D3⟩ := q
  rw [evSs, out_seq]
  refine Out.then (I := fun e S' => (∃ l, Lim l ∧ e = [b0, some (.ref d), some (.int j), b3, some (.tup (F5 z)), some (.tup [va, vb, vc, vd, ve]), b6', some (.tup l), b8, b9, b10]) ∧ Deck S' d c (m + 20 + 2 + 2)) ?_ fun e S4 q => ?_
  · (simp only [evTs, evT, seqOf, evSs, evS, evE, evEs, evO, evK, evI, evD, out_then, out_nx, out_rt, ev_bind, ev_pure, ev_ofOpt, ev_noExc, ev_alloc, ev_need, ev_ite', List.map, List.replicate, List.length, List.cons_append, List.nil_append, envGet, envSet, envDels, envDel, Option.some.injEq, exists_eq_left', Lit.val])
    refine (odd_ok (k := k + 1) L D3 (by omega)).imp fun v S1 q => ?_
    obtain ⟨l1, rfl, L1, D1, _⟩ := q
    exact ⟨⟨l1, L1, rfl⟩, D1⟩
  obtain ⟨⟨l1, L1, rfl⟩, D4⟩ := q
  rw [evSs, out_seq]
  refine Out.then (theirs_ok (k := k) D4 (by omega) L1 L) fun e S5 q => ?_
  obtain ⟨⟨b8', b9', rfl⟩, D5⟩ := q
  rw [evSs, out_nx]
  exact ⟨⟨_, _, _, _, _, _, _, _, _, rfl⟩, D5.up (by omega)⟩
end K00

namespace K00
open PySem L2 Pd
open scoped Classical
variable {fu : Nat} [Big fu]
/-- a thing made, four times -/
theorem right_a : RightV (.int 0) (.int 1) (.int 0) (.int 0) (.int 1) (0, 1, 0, 0, 1) := ⟨0, 1, 0, 0, 1, rfl, rfl, rfl, rfl, rfl, ⟨by decide, by decide, by decide, by decide⟩, ⟨by decide, by decide, by decide, by decide⟩, by decide +kernel⟩
theorem right_b : RightV (.int 3) (.int 6) (.int 0) (.int 0) (.int 1) (1, 2, 0, 0, 1) := ⟨3, 6, 0, 0, 1, rfl, rfl, rfl, rfl, rfl, ⟨by decide, by decide, by decide, by decide⟩, ⟨by decide, by decide, by decide, by decide⟩, by decide +kernel⟩
theorem right_c : RightV (.int 0) (.int 1) (.int 1) (.int 2) (.int 1) (0, 1, 1, 2, 1) := ⟨0, 1, 1, 2, 1, rfl, rfl, rfl, rfl, rfl, ⟨by decide, by decide, by decide, by decide⟩, ⟨by decide, by decide, by decide, by decide⟩, by decide +kernel⟩
theorem right_d : RightV (.int 1) (.int 2) (.int (-1)) (.int 9) (.int 4) (-1, 1, 0, 0, 1) := ⟨1, 2, -1, 9, 4, rfl, rfl, rfl, rfl, rfl, ⟨by decide, by decide, by decide, by decide⟩, ⟨by decide, by decide, by decide, by decide⟩, by decide +kernel⟩
def Four : List T5 := [(0, 1, 0, 0, 1), (1, 2, 0, 0, 1), (0, 1, 1, 2, 1), (-1, 1, 0, 0, 1)]
theorem fields_S {k : Nat} {S : Store} {z : T5} : EvS (callF T fu (k + 1) 15 [.ins 0 (F5 z)] S) fun v S' => v = .tup (F5 z) ∧ Old S S' := ⟨fields_ok⟩
theorem eq_four {S : Store} {i j : Nat} (h : S[i]? = some (.lst (Four.map fun z => .tup (F5 z)))) (h' : S[j]? = some (.lst (Four.map fun z => .tup (F5 z)))) : Pd.eqV S (.ref i) (.ref j) = some true := by
  have s1 : sims (Four.map fun z => .tup (F5 z)) = true := by decide
  have s2 : vdeps (Four.map fun z => .tup (F5 z)) ≤ 59 := by decide
  unfold Pd.eqV
  dsimp only
  rw [dat_list (n := 59) h s1 s2, dat_list (n := 59) h' s1 s2]
  rfl
structure OutS (r : RS) (I : Pd.Env → Store → Prop) (R : Val → Store → Prop) : Prop where
  g : Out r I R
theorem OutS.then {r : RS} {I I' : Pd.Env → Store → Prop} {R : Val → Store → Prop} (h : OutS r I R) (f : ∀ e S, I e S → I' e S) : OutS r I' R := ⟨h.g.imp f fun _ _ h => h⟩
theorem OutS.cons {C : EvC} {n : Nat} {s : IS} {ss : ISs} {env : Pd.Env} {S : Store} {I I' : Pd.Env → Store → Prop} {R : Val → Store → Prop} (h : OutS (evS C n s env S) I' R) (f : ∀ e S, I' e S → OutS (evSs C n ss e S) I R) : OutS (evSs C n (.cons s ss) env S) I R := by
  refine ⟨?_⟩
  rw [evSs, out_seq]
  exact h.g.imp (fun e S h => (f e S h).g) fun _ _ h => h
def lastA : IS := (.set 3 (.lst (.cons (.mk 0 5 (.cons (.lit (.int 0)) .nil) .nil) (.cons (.mk 0 7 (.cons (.lit (.int 3)) (.cons (.lit (.int 6)) .nil)) .nil) (.cons (.mk 0 6 (.cons (.lit (.int 0)) .nil) (.cons (.lit (.int 1)) (.cons (.lit (.int 2)) .nil))) (.cons (.mk 0 0 (.cons (.lit (.int 1)) (.cons (.lit (.int 2)) .nil)) (.cons (.neg (.lit (.int 1))) (.cons (.lit (.int 9)) (.cons (.lit (.int 4)) .nil)))) .nil))))))
theorem mkw {q c : Nat} {xs ys : List Val} {k : Nat} {S : Store} {va vb vc vd ve : Val} {z : T5} {Q : Val → Store → Prop} (R : RightV va vb vc vd ve z) (h : T.mkwV q c xs ys = some [va, vb, vc, vd, ve]) (q' : Q (.ins 0 (F5 z)) S) : ∃ zs, T.mkwV q c xs ys = some zs ∧ Ev (mkV T.cs (callF T fu (k + 3)) 0 zs S) Q := ⟨_, h, mk2 R rfl q'⟩
theorem last_a {k : Nat} {S : Store} {d : Option Val} {b0 b2 b3 b4 b5 b6 b7 b8 b9 b10 : Option Val} {R : Val → Store → Prop} : OutS (evS (T.C fu (k + 3)) fu lastA [b0, d, b2, b3, b4, b5, b6, b7, b8, b9, b10] S) (fun e S' => ∃ i, e = [b0, d, b2, some (.ref i), b4, b5, b6, b7, b8, b9, b10] ∧ S'[i]? = some (.lst (Four.map fun z => .ins 0 (F5 z)))) R := by
  have ra := right_a
  have rb := right_b
  have rc := right_c
  have rd := right_d
  refine ⟨?_⟩
  unfold lastA
  (simp only [evTs, evT, seqOf, evSs, evS, evE, evEs, evO, evK, evI, evD, out_then, out_nx, out_rt, ev_bind, ev_pure, ev_ofOpt, ev_noExc, ev_alloc, ev_need, ev_ite', List.map, List.replicate, List.length, List.cons_append, List.nil_append, envGet, envSet, envDels, envDel, Option.some.injEq, exists_eq_left', Lit.val])
  have e1 : T.mkwV 5 0 [.int 0] [] = some [.int 0, .int 1, .int 0, .int 0, .int 1] := rfl
  have e2 : T.mkwV 7 0 [.int 3, .int 6] [] = some [.int 3, .int 6, .int 0, .int 0, .int 1] := rfl
  have e3 : T.mkwV 6 0 [.int 0] [.int 1, .int 2] = some [.int 0, .int 1, .int 1, .int 2, .int 1] := rfl
  have e4 : T.mkwV 0 0 [.int 1, .int 2] [.int (-1), .int 9, .int 4] = some [.int 1, .int 2, .int (-1), .int 9, .int 4] := rfl
  generalize Val.int 0 = w0 at *
  generalize Val.int 1 = w1 at *
  generalize Val.int 2 = w2 at *
  generalize Val.int 3 = w3 at *
  generalize Val.int 6 = w6 at *
  generalize Val.int 9 = w9 at *
  generalize Val.int 4 = w4 at *
  generalize Val.int (-1) = wm at *
  refine mkw ra e1 (mkw rb e2 (mkw rc e3 (mkw rd e4 ?_)))
  exact ⟨by first | rfl | trivial, _, rfl, snoc_new⟩
def lastD : IS := (.set 4 (.lst (.cons (.tup (.cons (.lit (.int 0)) (.cons (.lit (.int 1)) (.cons (.lit (.int 0)) (.cons (.lit (.int 0)) (.cons (.lit (.int 1)) .nil)))))) (.cons (.tup (.cons (.lit (.int 1)) (.cons (.lit (.int 2)) (.cons (.lit (.int 0)) (.cons (.lit (.int 0)) (.cons (.lit (.int 1)) .nil)))))) (.cons (.tup (.cons (.lit (.int 0)) (.cons (.lit (.int 1)) (.cons (.lit (.int 1)) (.cons (.lit (.int 2)) (.cons (.lit (.int 1)) .nil)))))) (.cons (.tup (.cons (.neg (.lit (.int 1))) (.cons (.lit (.int 1)) (.cons (.lit (.int 0)) (.cons (.lit (.int 0)) (.cons (.lit (.int 1)) .nil)))))) .nil))))))
def lastR : IS := (.ret (.cmp .eq (.comp (.call 15 (.cons (.var 10) .nil)) [("one", 10)] (.name 10) (.val (.var 3)) .none) (.var 4)))
theorem last_eq : lastB = .cons lastA (.cons lastD (.cons lastR .nil)) := rfl
theorem last_d {k : Nat} {S : Store} {i : Nat} {d : Option Val} {b0 b2 b4 b5 b6 b7 b8 b9 b10 : Option Val} {R : Val → Store → Prop} (e : S[i]? = some (.lst (Four.map fun z => .ins 0 (F5 z)))) : OutS (evS (T.C fu (k + 3)) fu lastD [b0, d, b2, some (.ref i), b4, b5, b6, b7, b8, b9, b10] S) (fun e S' => ∃ j, e = [b0, d, b2, some (.ref i), some (.ref j), b5, b6, b7, b8, b9, b10] ∧ S'[i]? = some (.lst (Four.map fun z => .ins 0 (F5 z))) ∧ S'[j]? = some (.lst (Four.map fun z => .tup (F5 z)))) R := by
  refine ⟨?_⟩
  unfold lastD
  (simp only [evTs, evT, seqOf, evSs, evS, evE, evEs, evO, evK, evI, evD, out_then, out_nx, out_rt, ev_bind, ev_pure, ev_ofOpt, ev_noExc, ev_alloc, ev_need, ev_ite', List.map, List.replicate, List.length, List.cons_append, List.nil_append, envGet, envSet, envDels, envDel, Option.some.injEq, exists_eq_left', Lit.val])
  exact ⟨by first | rfl | trivial, by first | rfl | trivial, by first | rfl | trivial, by first | rfl | trivial, by first | rfl | trivial, _, rfl, snoc_old e, snoc_new⟩
def g5 : Val → Val
  | .ins _ l => .tup l
  | _ => .non
theorem g5_map (l : List T5) : (l.map fun z => Val.ins 0 (F5 z)).map g5 = l.map fun z => .tup (F5 z) := by
  rw [List.map_map]
  rfl
theorem last_r {k : Nat} {S : Store} {i j : Nat} {d : Option Val} {b0 b2 b5 b6 b7 b8 b9 b10 : Option Val} {I : Pd.Env → Store → Prop} (e : S[i]? = some (.lst (Four.map fun z => .ins 0 (F5 z)))) (e' : S[j]? = some (.lst (Four.map fun z => .tup (F5 z)))) : OutS (evS (T.C fu (k + 3)) fu lastR [b0, d, b2, some (.ref i), some (.ref j), b5, b6, b7, b8, b9, b10] S) I fun v _ => v = .bl true := by
  refine ⟨?_⟩
  unfold lastR
  (simp only [evTs, evT, seqOf, evSs, evS, evE, evEs, evO, evK, evI, evD, out_then, out_nx, out_rt, ev_bind, ev_pure, ev_ofOpt, ev_noExc, ev_alloc, ev_need, ev_ite', List.map, List.replicate, List.length, List.cons_append, List.nil_append, envGet, envSet, envDels, envDel, Option.some.injEq, exists_eq_left', Lit.val])
  rw [ev_srcL e]
  refine lc_dyn e g5 (by rw [List.length_map]; decide) (fun x S' hx o => ?_) (fun S1 o => ?_)
  · obtain ⟨z, _, rfl⟩ := List.mem_map.mp hx
    refine ⟨_, rfl, ⟨rfl, rfl⟩, ?_⟩
    (simp only [evTs, evT, seqOf, evSs, evS, evE, evEs, evO, evK, evI, evD, out_then, out_nx, out_rt, ev_bind, ev_pure, ev_ofOpt, ev_noExc, ev_alloc, ev_need, ev_ite', List.map, List.replicate, List.length, List.cons_append, List.nil_append, envGet, envSet, envDels, envDel, Option.some.injEq, exists_eq_left', Lit.val])
    exact fields_S.g
  · rw [g5_map, ev_eq (eq_four snoc_new (snoc_old (o.at e')))]
theorem last_ok {k : Nat} {S : Store} {d : Option Val} {b0 b2 b3 b4 b5 b6 b7 b8 b9 b10 : Option Val} {I : Pd.Env → Store → Prop} : OutS (evSs (T.C fu (k + 3)) fu lastB [b0, d, b2, b3, b4, b5, b6, b7, b8, b9, b10] S) I fun v _ => v = .bl true := by
  rw [last_eq]
  refine OutS.cons last_a fun e S1 q => ?_
  obtain ⟨i, rfl, e1⟩ := q
  refine OutS.cons (last_d e1) fun e S2 q => ?_
  obtain ⟨j, rfl, e2, e3⟩ := q
  exact OutS.cons (I' := fun _ _ => False) (last_r e2 e3) fun e S2 q => q.elim
theorem law_ok {k : Nat} {S : Store} {ns : List Int} (h : ns.length ≤ 63) : Ev (callF T fu (k + 6) 22 [.scr ns] S) fun v _ => v = .bl true := by
  refine ev_call (d := f22) rfl rfl ?_
  show Out (evSs (T.C fu (k + 5)) fu f22.body [some (.scr ns), none, none, none, none, none, none, none, none, none, none] S) (fun _ _ => Val.non = .bl true) (fun v _ => v = .bl true)
  rw [body_eq]
  refine OutS.g ?_
  refine OutS.cons (I' := fun e S' => ∃ d c, e = [some (.scr ns), some (.ref d), none, none, none, none, none, none, none, none, none] ∧ Deck S' d c 0) ⟨?_⟩ fun e S1 q => ?_
  · unfold firstS
    (simp only [evTs, evT, seqOf, evSs, evS, evE, evEs, evO, evK, evI, evD, out_then, out_nx, out_rt, ev_bind, ev_pure, ev_ofOpt, ev_noExc, ev_alloc, ev_need, ev_ite', List.map, List.replicate, List.length, List.cons_append, List.nil_append, envGet, envSet, envDels, envDel, Option.some.injEq, exists_eq_left', Lit.val])
    refine (deck_ok (k := k + 4) h).imp fun v S1 q => ?_
    obtain ⟨d, c, rfl, D, _⟩ := q
    exact ⟨d, c, rfl, D⟩
  obtain ⟨d, c, rfl, D⟩ := q
  refine OutS.cons (I' := fun e S' => ∃ b2 b3 b4 b5 b6 b7 b8 b9 b10, e = [some (.scr ns), some (.ref d), b2, b3, b4, b5, b6, b7, b8, b9, b10]) ⟨?_⟩ fun e S2 q => ?_
  · unfold evS
    (simp only [evTs, evT, seqOf, evSs, evS, evE, evEs, evO, evK, evI, evD, out_then, out_nx, out_rt, ev_bind, ev_pure, ev_ofOpt, ev_noExc, ev_alloc, ev_need, ev_ite', List.map, List.replicate, List.length, List.cons_append, List.nil_append, envGet, envSet, envDels, envDel, Option.some.injEq, exists_eq_left', Lit.val])
    rw [ev_range (by decide) (by decide) (by decide) (by decide)]
    refine out_loop (xs := Pd.upTo 0 (16 - 0 : Int).toNat) (fun _ x => x) (fun j e S' => (∃ b2 b3 b4 b5 b6 b7 b8 b9 b10, e = [some (.scr ns), some (.ref d), b2, b3, b4, b5, b6, b7, b8, b9, b10]) ∧ Deck S' d c (j * 100)) rfl (fun k e S' _ => by show some (Pd.upTo 0 (16 - 0 : Int).toNat)[k]? = some (Option.map (fun x => x) _); rw [Option.map_id']) (fun j x e S' hx hJ => ?_) ⟨⟨_, _, _, _, _, _, _, _, _, rfl⟩, D⟩ (fun e S' hJ => hJ.1)
    obtain ⟨⟨b2, b3, b4, b5, b6, b7, b8, b9, b10, rfl⟩, D2⟩ := hJ
    obtain ⟨hj, rfl⟩ := upTo_at hx
    have hj : j < 16 := hj
    refine ⟨_, rfl, ?_⟩
    rw [show (0 + (j : Int)) = (j : Int) by omega]
    refine (turn_ok (k := k) D2 (by omega)).imp (fun e S' q => ⟨q.1, q.2.up (by omega)⟩) fun _ _ h => h
  obtain ⟨b2, b3, b4, b5, b6, b7, b8, b9, b10, rfl⟩ := q
  exact last_ok (k := k + 2)
theorem law_get {k : Nat} {S : Store} {ns : List Int} (h : ns.length ≤ 63) : ∃ S', callF T fu (k + 6) 22 [.scr ns] S = .ok (.bl true) S' := by
  obtain ⟨v, S', e, rfl⟩ := Ev.get (law_ok (fu := fu) (k := k) (S := S) h)
  exact ⟨S', e⟩
instance : Big 3000 := ⟨by decide⟩
theorem law_holds (ns : List Int) (h : ns.length ≤ 63) : ∃ S, callF T 3000 12 22 [.scr ns] [] = .ok (.bl true) S := law_get (fu := 3000) (k := 6) h
end K00

namespace K00
open PySem L2 Pd
theorem walk {l : PySem.W.OpenLaw} {q : Program} {loose : List Str} {XP : (Str → Option Value) → Heap → Prop} {YP : World → Heap → Prop} {d : DefRec} {K : Params → PySem.W.Frag} (hn : l.most = some 63) (hdf : d.params.defaults = []) (hnm : d.name = "law") (hY : ∀ (w : World) (h : Heap), YP w h → (K w.params).In h)
    (F : ∀ (w : World) (mg : Str → Option Value) (h : Heap), (K w.params).In h → h.Ns mainGlobals mg → TextOk l.prog w (xW T.xs T.cs (K w.params)) mg T) : PySem.W.WalkO q loose XP YP l.row.toRowW d [] (fun f vs => PySem.call f vs) :=
  law_walk (n := 63) (k := 12) (fuel := 3000) (li := 22) (x := "script") (W := xW T.xs T.cs) hn (by decide) hdf ⟨rfl, by decide, by decide⟩ hY (fun _ => rfl) (by decide) rfl (by rw [hnm]; rfl) rfl rfl (fun w mg _ h KX G _ => F w mg h KX G) fun ns hl => law_holds ns hl
end K00
open PySem PySem.W PyProof.Rows
set_option maxRecDepth 100000 in
set_option maxHeartbeats 0 in
theorem PySem.Challenge.cw_pointhalls_k00_exacts_made_and_refused_holds : PySem.Challenge.rw_pointhalls_k00_exacts_made_and_refused.Holds := by
  w_on; o_law; k_head; (case hw => w_witness2)
  k_fill
  refine K00.walk (l := PySem.Challenge.rw_pointhalls_k00_exacts_made_and_refused) rfl rfl rfl (fun w h Y => PySem.W.kIn_of Y) ?F
  case F =>
    intro w mg h KX G
    refine' K00.all_mk KX G ?a0 ?l0 ?m0 ?k0 ?a1 ?l1 ?m1 ?k1 ?a2 ?l2 ?m2 ?k2 ?a3 ?l3 ?m3 ?k3 ?a4 ?l4 ?m4 ?k4 ?a5 ?l5 ?m5 ?k5 ?a6 ?l6 ?m6 ?k6 ?a7 ?l7 ?m7 ?k7 ?a8 ?l8 ?m8 ?k8 ?a9 ?l9 ?m9 ?k9 ?a10 ?l10 ?m10 ?k10 ?a11 ?l11 ?m11 ?k11 ?a12 ?l12 ?m12 ?k12 ?a13 ?l13 ?m13 ?k13 ?a14 ?l14 ?m14 ?k14 ?a15 ?l15 ?m15 ?k15 ?a16 ?l16 ?m16 ?k16 ?a17 ?l17 ?m17 ?k17 ?a18 ?l18 ?m18 ?k18 ?a19 ?l19 ?m19 ?k19 ?a20 ?l20 ?m20 ?k20 ?a21 ?l21 ?m21 ?k21 ?a22 ?l22 ?m22 ?k22 ?z0 ?z1 ?z2 ?z3 ?z4 ?z5 ?z6 ?z7 ?z8 ?z9 ?z10 ?icC ?icin ?icl ?icm ?ick ?ict ?icd0 ?icd1 ?icd2 ?icmk ?icfn ?ickc ?icpg ?ichd ?icpo ?icsa ?icha ?ichn ?icht ?ichm ?icf0 ?icf1 ?icf2 ?icf3 ?icf4 ?icq0 ?icqa0 ?icqa1 ?icqa2 ?icqa3 ?icqa4 ?icqa5 ?icqb0 ?icqb1 ?icqb2 ?icqb3 ?icqb4 ?icqb5 ?icqc ?xa0 ?xa2 ?xa3 ?xa4 ?xa5 ?xa6 ?xa7 ?xa8 ?xa9 ?xa10 ?xa11 ?xa12 ?xa13 ?xa14 ?xa15 ?xa16 ?xxga_2 ?xxgg_2 ?xxxp_2 ?xxkc_2 ?xxec_2 ?xxtc_2 ?xxhd_2 ?xxha_2 ?xxhn_2 ?xxht_2 ?xxhm_2 ?xxk0_2 ?xxe0_2 ?xxk1_2 ?xxe1_2 ?xxk2_2 ?xxe2_2 ?xxk3_2 ?xxe3_2 ?xxk4_2 ?xxe4_2 ?xxk5_2 ?xxe5_2 ?xxk6_2 ?xxe6_2 ?xxk7_2 ?xxe7_2 ?xxk8_2 ?xxe8_2 ?xxk9_2 ?xxe9_2 ?xxk10_2 ?xxe10_2 ?xxk11_2 ?xxe11_2 ?xxk12_2 ?xxe12_2 ?xxk13_2 ?xxe13_2 ?xxk14_2 ?xxe14_2 ?xxk15_2 ?xxe15_2 ?xxk16_2 ?xxe16_2
    (case a0 => k_is)
    (case l0 => k_is)
    (case m0 => k_is)
    (case k0 => k_is)
    (case a1 => k_is)
    (case l1 => k_is)
    (case m1 => k_is)
    (case k1 => k_is)
    (case a2 => k_is)
    (case l2 => k_is)
    (case m2 => k_is)
    (case k2 => k_is)
    (case a3 => k_is)
    (case l3 => k_is)
    (case m3 => k_is)
    (case k3 => k_is)
    (case a4 => k_is)
    (case l4 => k_is)
    (case m4 => k_is)
    (case k4 => k_is)
    (case a5 => k_is)
    (case l5 => k_is)
    (case m5 => k_is)
    (case k5 => k_is)
    (case a6 => k_is)
    (case l6 => k_is)
    (case m6 => k_is)
    (case k6 => k_is)
    (case a7 => k_is)
    (case l7 => k_is)
    (case m7 => k_is)
    (case k7 => k_is)
    (case a8 => k_is)
    (case l8 => k_is)
    (case m8 => k_is)
    (case k8 => k_is)
    (case a9 => k_is)
    (case l9 => k_is)
    (case m9 => k_is)
    (case k9 => k_is)
    (case a10 => k_is)
    (case l10 => k_is)
    (case m10 => k_is)
    (case k10 => k_is)
    (case a11 => k_is)
    (case l11 => k_is)
    (case m11 => k_is)
    (case k11 => k_is)
    (case a12 => k_is)
    (case l12 => k_is)
    (case m12 => k_is)
    (case k12 => k_is)
    (case a13 => k_is)
    (case l13 => k_is)
    (case m13 => k_is)
    (case k13 => k_is)
    (case a14 => k_is)
    (case l14 => k_is)
    (case m14 => k_is)
    (case k14 => k_is)
    (case a15 => k_is)
    (case l15 => k_is)
    (case m15 => k_is)
    (case k15 => k_is)
    (case a16 => k_is)
    (case l16 => k_is)
    (case m16 => k_is)
    (case k16 => k_is)
    (case a17 => k_is)
    (case l17 => k_is)
    (case m17 => k_is)
    (case k17 => k_is)
    (case a18 => k_is)
    (case l18 => k_is)
    (case m18 => k_is)
    (case k18 => k_is)
    (case a19 => k_is)
    (case l19 => k_is)
    (case m19 => k_is)
    (case k19 => k_is)
    (case a20 => k_is)
    (case l20 => k_is)
    (case m20 => k_is)
    (case k20 => k_is)
    (case a21 => k_is)
    (case l21 => k_is)
    (case m21 => k_is)
    (case k21 => k_is)
    (case a22 => k_is)
    (case l22 => k_is)
    (case m22 => k_is)
    (case k22 => k_is)
    (case z0 => k_is)
    (case z1 => k_is)
    (case z2 => k_is)
    (case z3 => k_is)
    (case z4 => k_is)
    (case z5 => k_is)
    (case z6 => k_is)
    (case z7 => k_is)
    (case z8 => k_is)
    (case z9 => k_is)
    (case z10 => k_is)
    (case icC => k_is)
    (case icin => k_is)
    (case icl => k_is)
    (case icm => k_is)
    (case ick => k_is)
    (case ict => k_is)
    (case icd0 => k_is)
    (case icd1 => k_is)
    (case icd2 => k_is)
    (case icmk => k_is)
    (case icfn => k_is)
    (case ickc => k_is)
    (case icpg => k_is)
    (case ichd => k_is)
    (case icpo => k_is)
    (case icsa => k_is)
    (case icha => k_is)
    (case ichn => k_is)
    (case icht => k_is)
    (case ichm => k_is)
    (case icf0 => k_is)
    (case icf1 => k_is)
    (case icf2 => k_is)
    (case icf3 => k_is)
    (case icf4 => k_is)
    (case icq0 => kit_is)
    (case icqa0 => kit_is)
    (case icqa1 => kit_is)
    (case icqa2 => kit_is)
    (case icqa3 => kit_is)
    (case icqa4 => kit_is)
    (case icqa5 => kit_is)
    (case icqb0 => kit_is)
    (case icqb1 => kit_is)
    (case icqb2 => kit_is)
    (case icqb3 => kit_is)
    (case icqb4 => kit_is)
    (case icqb5 => kit_is)
    (case icqc => kit_is)
    (case xa0 => k_is)
    (case xa2 => k_is)
    (case xa3 => k_is)
    (case xa4 => k_is)
    (case xa5 => k_is)
    (case xa6 => k_is)
    (case xa7 => k_is)
    (case xa8 => k_is)
    (case xa9 => k_is)
    (case xa10 => k_is)
    (case xa11 => k_is)
    (case xa12 => k_is)
    (case xa13 => k_is)
    (case xa14 => k_is)
    (case xa15 => k_is)
    (case xa16 => k_is)
    (case xxga_2 => k_is)
    (case xxgg_2 => k_is)
    (case xxxp_2 => k_exc)
    (case xxkc_2 => k_is)
    (case xxec_2 => k_is)
    (case xxtc_2 => k_is)
    (case xxhd_2 => k_is)
    (case xxha_2 => k_is)
    (case xxhn_2 => k_is)
    (case xxht_2 => k_is)
    (case xxhm_2 => k_is)
    (case xxk0_2 => kit_is)
    (case xxe0_2 => refine Pd.exm_own ?_ ?_ ?_ <;> k_is)
    (case xxk1_2 => kit_is)
    (case xxe1_2 => exact Pd.exm_typ (by decide +kernel) (by decide +kernel) (by k_is))
    (case xxk2_2 => kit_is)
    (case xxe2_2 => refine Pd.exm_own ?_ ?_ ?_ <;> k_is)
    (case xxk3_2 => kit_is)
    (case xxe3_2 => refine Pd.exm_own ?_ ?_ ?_ <;> k_is)
    (case xxk4_2 => kit_is)
    (case xxe4_2 => refine Pd.exm_own ?_ ?_ ?_ <;> k_is)
    (case xxk5_2 => kit_is)
    (case xxe5_2 => refine Pd.exm_own ?_ ?_ ?_ <;> k_is)
    (case xxk6_2 => kit_is)
    (case xxe6_2 => refine Pd.exm_own ?_ ?_ ?_ <;> k_is)
    (case xxk7_2 => kit_is)
    (case xxe7_2 => refine Pd.exm_own ?_ ?_ ?_ <;> k_is)
    (case xxk8_2 => kit_is)
    (case xxe8_2 => refine Pd.exm_own ?_ ?_ ?_ <;> k_is)
    (case xxk9_2 => kit_is)
    (case xxe9_2 => refine Pd.exm_own ?_ ?_ ?_ <;> k_is)
    (case xxk10_2 => kit_is)
    (case xxe10_2 => refine Pd.exm_own ?_ ?_ ?_ <;> k_is)
    (case xxk11_2 => kit_is)
    (case xxe11_2 => refine Pd.exm_own ?_ ?_ ?_ <;> k_is)
    (case xxk12_2 => kit_is)
    (case xxe12_2 => refine Pd.exm_own ?_ ?_ ?_ <;> k_is)
    (case xxk13_2 => kit_is)
    (case xxe13_2 => refine Pd.exm_own ?_ ?_ ?_ <;> k_is)
    (case xxk14_2 => kit_is)
    (case xxe14_2 => refine Pd.exm_own ?_ ?_ ?_ <;> k_is)
    (case xxk15_2 => kit_is)
    (case xxe15_2 => refine Pd.exm_own ?_ ?_ ?_ <;> k_is)
    (case xxk16_2 => kit_is)
    (case xxe16_2 => refine Pd.exm_own ?_ ?_ ?_ <;> k_is)

