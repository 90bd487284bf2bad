import PyProof.Rows.All
import Wide.All
import OpenK.AllK
import Wide.FinOn
import KE.KStateDown
import HandS.ForMost
import HandS.ForExc
import HandS.Wide
import HandS.Deep
import HandS.TupAny
import HandS.TupLe
import HandS.Style
import HandS.IsInst
import HandS.Defaults
import HandS.CallSlots
import HandS.ExcIs
import HandS.Steps
import HandS.Text
import KE.DataCmp
import PyProof.WalksMore
import HandS.TupSets
import HandS.NamedTupSort
import HandS.Conv
import HandS.Zip
import HandS.RaiseMore
import HandS.TryOnly
import HandS.HotCalls
import HandS.TupLen
import HandS.More
import HandS.WordsDict
import HandS.ExcValue
import HandS.StrMore
import HandS.Head0
import HandS.Head1
import HandS.Head2
import HandS.HeadEnd
import HandS.EndBits
import HandS.HeadHook1
import HandS.HeadHook2
import PySem.Challenge.RW_farshells_k63_held_judged
set_option Elab.async false
set_option linter.all false
set_option maxRecDepth 100000
set_option autoImplicit false
/-! Plain data, and how values stand for them in a heap. -/
namespace FS
open PySem PySem.Spec L2

/-- plain data -/
inductive PD where
  | non
  | bl (b : Bool)
  | int (i : Int)
  | str (x : Str)
  | tup (xs : List PD)
  | lst (xs : List PD)
  | dct (kvs : List (PD × PD))
  | exn (c : Nat)
  | pot

/-- what a slot holds: data that stays, or a list or a dict of the frame's own, that may change -/
inductive Sl where
  | v (d : PD)
  | l (ds : List PD)
  | k (t : Bool) (kvs : List (PD × PD))

/-- what stays fixed: the written part, the refusals' classes by number -/
structure Kx where
  K : PySem.W.Frag
  cv : Nat → Value
  P : List Int → Prop
  tk : Bool := false

/-- a refusal that stands as an object, of this class -/
def XO (cls : Value) (a : Addr) : HO := .ext fun h => ∃ (oe : Obj) (vs : Array Value), h.get? a = some oe ∧ Zc cls none oe ∧ oe.data = .fields vs

/-- a list of numbers of which a word stays true, whoever draws from it -/
def POT (P : List Int → Prop) (a : Addr) : HO := .ext fun h => ∃ (ns : List Int) (its : List Value) (n : Nat), P ns ∧ ns.length ≤ 9 ∧ Vals (ns.map V.int) its ∧ h.get? a = some { cls := .type "list", data := .seq its.toArray n }

def keyPD : Key → PD
  | .inl i => .int i
  | .inr x => .str x

/-- a list that is read, or one of the written part, without more to it -/
def Ls (K : PySem.W.Frag) (G : Hp) (a : Addr) (xs : List V) : Prop := Rd G a (.lst xs) ∨ ∃ (its : Array Value) (n : Nat), K.lookup a = some { cls := .type "list", data := .seq its n } ∧ its.size ≤ sizeLine ∧ Vals xs its.toList
theorem Ls.sql {K : PySem.W.Frag} {G : Hp} {a : Addr} {xs : List V} (h : Ls K G a xs) : SqL K G a xs := by
  rcases h with h | ⟨its, n, h1, h2, h3⟩
  · exact .inl h
  · exact .inr ⟨_, its, n, h1, rfl, rfl, rfl, h2, h3⟩
/-- a tuple of the heap; one of the written part, too, where these are let -/
def TQ (k : Kx) (G : Hp) (a : Addr) (xs : List V) : Prop := G a = some (.tup xs) ∨ (k.tk = true ∧ SqT k.K G a xs)
mutual
def Rep (k : Kx) (G : Hp) : PD → V → Prop
  | .non, v => v = .non
  | .bl b, v => v = .bl b
  | .int i, v => v = .int i
  | .str x, v => v = .str x
  | .tup ds, v => ∃ a vs, v = .ref a ∧ TQ k G a vs ∧ Reps k G ds vs
  | .lst ds, v => ∃ a vs, v = .ref a ∧ Ls k.K G a vs ∧ Reps k G ds vs
  | .dct kvs, v => ∃ a, v = .ref a ∧ ((∃ ks, Rd G a (.dK ks) ∧ RepK k G kvs ks) ∨ (∃ ks, G a = some (.dT ks) ∧ RepT k G kvs ks))
  | .exn c, v => ∃ a, v = .ref a ∧ G a = some (XO (k.cv c) a)
  | .pot, v => ∃ a, v = .ref a ∧ G a = some (POT k.P a)
def Reps (k : Kx) (G : Hp) : List PD → List V → Prop
  | [], vs => vs = []
  | d :: ds, vs => ∃ v ws, vs = v :: ws ∧ Rep k G d v ∧ Reps k G ds ws
def RepK (k : Kx) (G : Hp) : List (PD × PD) → List (Key × V) → Prop
  | [], vs => vs = []
  | (x, d) :: ds, vs => ∃ y v ws, vs = (y, v) :: ws ∧ x = keyPD y ∧ Rep k G d v ∧ RepK k G ds ws
def RepT (k : Kx) (G : Hp) : List (PD × PD) → List (List Key × V) → Prop
  | [], vs => vs = []
  | (x, d) :: ds, vs => ∃ y v ws, vs = (y, v) :: ws ∧ x = .tup (y.map keyPD) ∧ Rep k G d v ∧ RepT k G ds ws
end

theorem rd_mono {G G' : Hp} {a : Addr} {u : HO} (s : Same G G') (h : Rd G a u) : Rd G' a u := by
  rcases h with h | ⟨o, h⟩
  · exact .inl (s _ _ h)
  · exact .inr ⟨o, s _ _ h⟩
theorem sqT_mono {K : PySem.W.Frag} {G G' : Hp} {a : Addr} {xs : List V} (s : Same G G') (h : SqT K G a xs) : SqT K G' a xs := by
  rcases h with h | h
  · exact .inl (rd_mono s h)
  · exact .inr h

theorem Ls.mono {K : PySem.W.Frag} {G G' : Hp} {a : Addr} {xs : List V} (s : Same G G') (h : Ls K G a xs) : Ls K G' a xs := by
  rcases h with h | h
  · exact .inl (rd_mono s h)
  · exact .inr h
theorem TQ.mono {k : Kx} {G G' : Hp} {a : Addr} {xs : List V} (s : Same G G') (h : TQ k G a xs) : TQ k G' a xs := by
  rcases h with h | ⟨h1, h2⟩
  · exact .inl (s _ _ h)
  · exact .inr ⟨h1, sqT_mono s h2⟩
theorem TQ.sq {k : Kx} {G : Hp} {a : Addr} {xs : List V} (h : TQ k G a xs) : SqT k.K G a xs := by
  rcases h with h | ⟨_, h⟩
  · exact .inl (.inl h)
  · exact h
mutual
theorem Rep.mono {k : Kx} {G G' : Hp} (s : Same G G') : ∀ {d : PD} {v : V}, Rep k G d v → Rep k G' d v
  | .non, _, h => by simp only [Rep] at h ⊢; exact h
  | .bl _, _, h => by simp only [Rep] at h ⊢; exact h
  | .int _, _, h => by simp only [Rep] at h ⊢; exact h
  | .str _, _, h => by simp only [Rep] at h ⊢; exact h
  | .tup ds, _, h => by
    simp only [Rep] at h ⊢
    obtain ⟨a, vs, e, q, r⟩ := h
    exact ⟨a, vs, e, q.mono s, Reps.mono s r⟩
  | .lst ds, _, h => by
    simp only [Rep] at h ⊢
    obtain ⟨a, vs, e, q, r⟩ := h
    exact ⟨a, vs, e, q.mono s, Reps.mono s r⟩
  | .dct kvs, _, h => by
    simp only [Rep] at h ⊢
    obtain ⟨a, e, ⟨ks, q, r⟩ | ⟨ks, q, r⟩⟩ := h
    · exact ⟨a, e, .inl ⟨ks, rd_mono s q, RepK.mono s r⟩⟩
    · exact ⟨a, e, .inr ⟨ks, s _ _ q, RepT.mono s r⟩⟩
  | .exn c, _, h => by
    simp only [Rep] at h ⊢
    obtain ⟨a, e, q⟩ := h
    exact ⟨a, e, s _ _ q⟩
  | .pot, _, h => by
    simp only [Rep] at h ⊢
    obtain ⟨a, e, q⟩ := h
    exact ⟨a, e, s _ _ q⟩
theorem Reps.mono {k : Kx} {G G' : Hp} (s : Same G G') : ∀ {ds : List PD} {vs : List V}, Reps k G ds vs → Reps k G' ds vs
  | [], _, h => by simp only [Reps] at h ⊢; exact h
  | d :: ds, _, h => by
    simp only [Reps] at h ⊢
    obtain ⟨v, ws, e, q, r⟩ := h
    exact ⟨v, ws, e, Rep.mono s q, Reps.mono s r⟩
theorem RepK.mono {k : Kx} {G G' : Hp} (s : Same G G') : ∀ {ds : List (PD × PD)} {vs : List (Key × V)}, RepK k G ds vs → RepK k G' ds vs
  | [], _, h => by simp only [RepK] at h ⊢; exact h
  | (x, d) :: ds, _, h => by
    simp only [RepK] at h ⊢
    obtain ⟨y, v, ws, e, z, q, r⟩ := h
    exact ⟨y, v, ws, e, z, Rep.mono s q, RepK.mono s r⟩
theorem RepT.mono {k : Kx} {G G' : Hp} (s : Same G G') : ∀ {ds : List (PD × PD)} {vs : List (List Key × V)}, RepT k G ds vs → RepT k G' ds vs
  | [], _, h => by simp only [RepT] at h ⊢; exact h
  | (x, d) :: ds, _, h => by
    simp only [RepT] at h ⊢
    obtain ⟨y, v, ws, e, z, q, r⟩ := h
    exact ⟨y, v, ws, e, z, Rep.mono s q, RepT.mono s r⟩
end

theorem Reps.nil_iff {k : Kx} {G : Hp} {vs : List V} : Reps k G [] vs ↔ vs = [] := by simp only [Reps]
theorem Reps.cons_iff {k : Kx} {G : Hp} {d : PD} {ds : List PD} {vs : List V} : Reps k G (d :: ds) vs ↔ ∃ v ws, vs = v :: ws ∧ Rep k G d v ∧ Reps k G ds ws := by simp only [Reps]
theorem Reps.nil {k : Kx} {G : Hp} : Reps k G [] [] := by simp only [Reps]
theorem Reps.cons {k : Kx} {G : Hp} {d : PD} {ds : List PD} {v : V} {vs : List V} (h : Rep k G d v) (t : Reps k G ds vs) : Reps k G (d :: ds) (v :: vs) := by
  simp only [Reps]; exact ⟨_, _, rfl, h, t⟩
theorem Reps.length {k : Kx} {G : Hp} : ∀ {ds : List PD} {vs : List V}, Reps k G ds vs → vs.length = ds.length
  | [], _, h => by rw [Reps.nil_iff.mp h]; rfl
  | _ :: _, _, h => by
    obtain ⟨v, ws, rfl, _, r⟩ := Reps.cons_iff.mp h
    simp [Reps.length r]
theorem Reps.append {k : Kx} {G : Hp} : ∀ {ds es : List PD} {vs ws : List V}, Reps k G ds vs → Reps k G es ws → Reps k G (ds ++ es) (vs ++ ws)
  | [], _, _, _, h, h' => by rw [Reps.nil_iff.mp h]; exact h'
  | _ :: _, _, _, _, h, h' => by
    obtain ⟨v, ws, rfl, q, r⟩ := Reps.cons_iff.mp h
    exact Reps.cons q (Reps.append r h')
theorem Reps.get {k : Kx} {G : Hp} : ∀ {ds : List PD} {vs : List V} {i : Nat} {d : PD}, Reps k G ds vs → ds[i]? = some d → ∃ v, vs[i]? = some v ∧ Rep k G d v
  | [], _, _, _, _, e => by simp at e
  | x :: ds, _, 0, d, h, e => by
    obtain ⟨v, ws, rfl, q, r⟩ := Reps.cons_iff.mp h
    simp at e; subst e
    exact ⟨v, rfl, q⟩
  | x :: ds, _, i + 1, d, h, e => by
    obtain ⟨v, ws, rfl, q, r⟩ := Reps.cons_iff.mp h
    obtain ⟨u, h1, h2⟩ := Reps.get (i := i) r (by simpa using e)
    exact ⟨u, by simpa using h1, h2⟩
theorem Reps.get' {k : Kx} {G : Hp} : ∀ {ds : List PD} {vs : List V} {i : Nat} {v : V}, Reps k G ds vs → vs[i]? = some v → ∃ d, ds[i]? = some d ∧ Rep k G d v
  | [], _, _, _, h, e => by rw [Reps.nil_iff.mp h] at e; simp at e
  | x :: ds, _, 0, d, h, e => by
    obtain ⟨v, ws, rfl, q, r⟩ := Reps.cons_iff.mp h
    simp at e; subst e
    exact ⟨x, rfl, q⟩
  | x :: ds, _, i + 1, d, h, e => by
    obtain ⟨v, ws, rfl, q, r⟩ := Reps.cons_iff.mp h
    obtain ⟨u, h1, h2⟩ := Reps.get' (i := i) r (by simpa using e)
    exact ⟨u, by simpa using h1, h2⟩
theorem Reps.set {k : Kx} {G : Hp} {d : PD} {v : V} (hv : Rep k G d v) : ∀ {ds : List PD} {vs : List V} (i : Nat), Reps k G ds vs → Reps k G (ds.set i d) (vs.set i v)
  | [], _, _, h => by rw [Reps.nil_iff.mp h]; exact Reps.nil
  | x :: ds, _, 0, h => by
    obtain ⟨v, ws, rfl, q, r⟩ := Reps.cons_iff.mp h
    exact Reps.cons hv r
  | x :: ds, _, i + 1, h => by
    obtain ⟨v, ws, rfl, q, r⟩ := Reps.cons_iff.mp h
    exact Reps.cons q (Reps.set hv i r)
theorem Reps.take {k : Kx} {G : Hp} : ∀ {ds : List PD} {vs : List V} (n : Nat), Reps k G ds vs → Reps k G (ds.take n) (vs.take n)
  | _, _, 0, _ => by simp; exact Reps.nil
  | [], _, _ + 1, h => by rw [Reps.nil_iff.mp h]; exact Reps.nil
  | x :: ds, _, n + 1, h => by
    obtain ⟨v, ws, rfl, q, r⟩ := Reps.cons_iff.mp h
    exact Reps.cons q (Reps.take n r)
theorem Reps.drop {k : Kx} {G : Hp} : ∀ {ds : List PD} {vs : List V} (n : Nat), Reps k G ds vs → Reps k G (ds.drop n) (vs.drop n)
  | _, _, 0, h => h
  | [], _, _ + 1, h => by rw [Reps.nil_iff.mp h]; exact Reps.nil
  | x :: ds, _, n + 1, h => by
    obtain ⟨v, ws, rfl, q, r⟩ := Reps.cons_iff.mp h
    exact Reps.drop n r
theorem Reps.reverse {k : Kx} {G : Hp} : ∀ {ds : List PD} {vs : List V}, Reps k G ds vs → Reps k G ds.reverse vs.reverse
  | [], _, h => by rw [Reps.nil_iff.mp h]; exact Reps.nil
  | x :: ds, _, h => by
    obtain ⟨v, ws, rfl, q, r⟩ := Reps.cons_iff.mp h
    rw [List.reverse_cons, List.reverse_cons]
    exact Reps.append (Reps.reverse r) (Reps.cons q Reps.nil)
theorem Reps.ints {k : Kx} {G : Hp} : ∀ {ns : List Int} {vs : List V}, Reps k G (ns.map PD.int) vs → vs = ns.map V.int
  | [], _, h => Reps.nil_iff.mp h
  | n :: ns, _, h => by
    obtain ⟨v, ws, rfl, q, r⟩ := Reps.cons_iff.mp h
    simp only [Rep] at q
    rw [q, Reps.ints r]; rfl
theorem Reps.of_ints {k : Kx} {G : Hp} : ∀ (ns : List Int), Reps k G (ns.map PD.int) (ns.map V.int)
  | [] => Reps.nil
  | n :: ns => Reps.cons (by simp only [Rep]) (Reps.of_ints ns)
theorem Reps.bls {k : Kx} {G : Hp} : ∀ {ns : List Bool} {vs : List V}, Reps k G (ns.map PD.bl) vs → vs = ns.map V.bl
  | [], _, h => Reps.nil_iff.mp h
  | n :: ns, _, h => by
    obtain ⟨v, ws, rfl, q, r⟩ := Reps.cons_iff.mp h
    simp only [Rep] at q
    rw [q, Reps.bls r]; rfl
theorem Reps.strs {k : Kx} {G : Hp} : ∀ {ns : List Str} {vs : List V}, Reps k G (ns.map PD.str) vs → vs = ns.map V.str
  | [], _, h => Reps.nil_iff.mp h
  | n :: ns, _, h => by
    obtain ⟨v, ws, rfl, q, r⟩ := Reps.cons_iff.mp h
    simp only [Rep] at q
    rw [q, Reps.strs r]; rfl

theorem Rep.ofInt {k : Kx} {G : Hp} {i : Int} {v : V} (h : Rep k G (.int i) v) : v = .int i := by simpa only [Rep] using h
theorem Rep.ofBl {k : Kx} {G : Hp} {i : Bool} {v : V} (h : Rep k G (.bl i) v) : v = .bl i := by simpa only [Rep] using h
theorem Rep.ofStr {k : Kx} {G : Hp} {i : Str} {v : V} (h : Rep k G (.str i) v) : v = .str i := by simpa only [Rep] using h
theorem Rep.ofNon {k : Kx} {G : Hp} {v : V} (h : Rep k G .non v) : v = .non := by simpa only [Rep] using h
theorem Rep.ofTup {k : Kx} {G : Hp} {ds : List PD} {v : V} (h : Rep k G (.tup ds) v) : ∃ a vs, v = .ref a ∧ SqT k.K G a vs ∧ Reps k G ds vs := by
  simp only [Rep] at h
  obtain ⟨a, vs, e, q, r⟩ := h
  exact ⟨a, vs, e, q.sq, r⟩
theorem Rep.ofTupH {k : Kx} {G : Hp} {ds : List PD} {v : V} (ht : k.tk = false) (h : Rep k G (.tup ds) v) : ∃ a vs, v = .ref a ∧ G a = some (.tup vs) ∧ Reps k G ds vs := by
  simp only [Rep] at h
  obtain ⟨a, vs, e, q | ⟨q, _⟩, r⟩ := h
  · exact ⟨a, vs, e, q, r⟩
  · rw [ht] at q; cases q
theorem Rep.ofLst {k : Kx} {G : Hp} {ds : List PD} {v : V} (h : Rep k G (.lst ds) v) : ∃ a vs, v = .ref a ∧ Ls k.K G a vs ∧ Reps k G ds vs := by simpa only [Rep] using h
theorem Rep.int {k : Kx} {G : Hp} {i : Int} : Rep k G (.int i) (.int i) := by simp only [Rep]
theorem Rep.bl {k : Kx} {G : Hp} {i : Bool} : Rep k G (.bl i) (.bl i) := by simp only [Rep]
theorem Rep.str {k : Kx} {G : Hp} {i : Str} : Rep k G (.str i) (.str i) := by simp only [Rep]
theorem Rep.non {k : Kx} {G : Hp} : Rep k G .non .non := by simp only [Rep]
theorem Rep.tup {k : Kx} {G : Hp} {ds : List PD} {a : Addr} {vs : List V} (h : TQ k G a vs) (r : Reps k G ds vs) : Rep k G (.tup ds) (.ref a) := by simp only [Rep]; exact ⟨a, vs, rfl, h, r⟩
theorem Rep.lst {k : Kx} {G : Hp} {ds : List PD} {a : Addr} {vs : List V} (h : Ls k.K G a vs) (r : Reps k G ds vs) : Rep k G (.lst ds) (.ref a) := by simp only [Rep]; exact ⟨a, vs, rfl, h, r⟩

def isT : Option HO → Prop
  | some (.tup _) => True
  | _ => False
/-- a part of a heap, and all tuples (which nobody changes) -/
noncomputable def part (p : Addr → Prop) (H : Hp) : Hp := fun a => open Classical in if p a ∨ isT (H a) then H a else none
theorem part_eq {p : Addr → Prop} {H : Hp} {a : Addr} (h : p a) : part p H a = H a := by unfold part; rw [if_pos (.inl h)]
theorem part_tup {p : Addr → Prop} {H : Hp} {a : Addr} {xs : List V} (h : H a = some (.tup xs)) : part p H a = some (.tup xs) := by
  unfold part
  rw [if_pos (.inr (by rw [h]; trivial)), h]
theorem part_some {p : Addr → Prop} {H : Hp} {a : Addr} {o : HO} (h : part p H a = some o) : (p a ∨ isT (some o)) ∧ H a = some o := by
  unfold part at h
  by_cases q : p a ∨ isT (H a)
  · rw [if_pos q] at h
    rw [h] at q
    exact ⟨q, h⟩
  · rw [if_neg q] at h; cases h
theorem part_le {p : Addr → Prop} {H : Hp} : Same (part p H) H := fun _ _ h => (part_some h).2
theorem part_mono {p q : Addr → Prop} {H H' : Hp} (s : Same H H') (h : ∀ a o, H a = some o → p a → q a) : Same (part p H) (part q H') := fun a o e => by
  obtain ⟨e1, e2⟩ := part_some e
  have e3 := s _ _ e2
  unfold part
  rw [if_pos (e1.elim (fun z => .inl (h a o e2 z)) fun z => .inr (by rw [e3]; exact z)), e3]
end FS

set_option maxRecDepth 100000
set_option autoImplicit false
/-! The small language that the defs are read into, and what it tells. -/
namespace FS
open PySem PySem.Spec L2

/-- from 0 on, below a bound where there is one -/
def inR (m : Option Int) (i : Int) : Prop := 0 ≤ i ∧ ∀ b, m = some b → i < b
instance (m : Option Int) (i : Int) : Decidable (inR m i) := match m with
  | none => if h : 0 ≤ i then .isTrue ⟨h, fun _ e => by cases e⟩ else .isFalse fun z => h z.1
  | some b => if h : 0 ≤ i ∧ i < b then .isTrue ⟨h.1, fun _ e => by cases e; exact h.2⟩ else .isFalse fun z => h ⟨z.1, z.2 b rfl⟩
/-- a value, a refusal by its number, or what is not told -/
inductive R (α : Type) where
  | ok (a : α)
  | ex (c : Nat)
  | st
  | ask (m : Option Int) (k : Int → R α)

namespace R
/-- the one, then the other; what is drawn may be anything from 0 to below m -/
def bind {α β : Type} : R α → (α → R β) → R β
  | .ok a, f => f a
  | .ex c, _ => .ex c
  | .st, _ => .st
  | .ask m k, f => .ask m fun i => (k i).bind f
@[simp] theorem bind_ok {α β : Type} (a : α) (f : α → R β) : bind (.ok a) f = f a := rfl
@[simp] theorem bind_ex {α β : Type} (c : Nat) (f : α → R β) : bind (.ex c) f = .ex c := rfl
@[simp] theorem bind_st {α β : Type} (f : α → R β) : bind .st f = .st := rfl
@[simp] theorem bind_ask {α β : Type} (m : Option Int) (k : Int → R α) (f : α → R β) : bind (.ask m k) f = .ask m fun i => (k i).bind f := rfl
theorem bind_assoc {α β γ : Type} (r : R α) (f : α → R β) (g : β → R γ) : (r.bind f).bind g = r.bind fun a => (f a).bind g := by
  induction r with
  | ok a => rfl
  | ex c => rfl
  | st => rfl
  | ask m k ih => simp only [bind_ask, ih]
/-- a refusal counts for nothing -/
def nox {α : Type} : R α → R α
  | .ok a => .ok a
  | .ex _ => .st
  | .st => .st
  | .ask m k => .ask m fun i => (k i).nox
/-- what it may tell -/
def Leaf {α : Type} : R α → α → Prop
  | .ok a, b => b = a
  | .ex _, _ => False
  | .st, _ => False
  | .ask _ k, b => ∃ i, (k i).Leaf b
theorem Leaf.of_bind {α β : Type} {r : R α} {f : α → R β} {b : β} (h : (r.bind f).Leaf b) : ∃ a, r.Leaf a ∧ (f a).Leaf b := by
  induction r with
  | ok a => exact ⟨a, rfl, h⟩
  | ex c => exact h.elim
  | st => exact h.elim
  | ask m k ih =>
    obtain ⟨i, h⟩ := h
    obtain ⟨a, h1, h2⟩ := ih i h
    exact ⟨a, ⟨i, h1⟩, h2⟩
/-- neither drawn nor refused -/
def plain {α : Type} : R α → Prop
  | .ok _ => True
  | .st => True
  | _ => False
end R

def Sl.pd : Sl → PD
  | .v d => d
  | .l ds => .lst ds
  | .k _ kvs => .dct kvs
@[simp] theorem Sl.pd_v (d : PD) : (Sl.v d).pd = d := rfl
@[simp] theorem Sl.pd_l (d : List PD) : (Sl.l d).pd = .lst d := rfl
@[simp] theorem Sl.pd_k (t : Bool) (d : List (PD × PD)) : (Sl.k t d).pd = .dct d := rfl
def Sl.thaw (s : Sl) : Sl := .v s.pd

abbrev En := List (Option Sl)
def thaw (ρ : En) : En := ρ.map (Option.map Sl.thaw)

mutual
def PD.py : PD → PyData
  | .non => .none
  | .bl b => .bool b
  | .int i => .int i
  | .str x => .str x
  | .tup xs => .tuple (pys xs)
  | .lst xs => .list (pys xs)
  | .dct _ => .dict []
  | .exn _ => .dict []
  | .pot => .dict []
def pys : List PD → List PyData
  | [] => []
  | x :: xs => x.py :: pys xs
end

def PD.flat : PD → Bool
  | .non => true
  | .bl _ => true
  | .int _ => true
  | .str _ => true
  | _ => false

/-- the ints of a list, where it holds nothing else -/
def ints? : List PD → Option (List Int)
  | [] => some []
  | .int i :: r => match ints? r with
    | some ns => some (i :: ns)
    | none => none
  | _ :: _ => none
def bls? : List PD → Option (List Bool)
  | [] => some []
  | .bl i :: r => match bls? r with
    | some ns => some (i :: ns)
    | none => none
  | _ :: _ => none

/-- rows of numbers -/
def tints? : List PD → Option (List (List Int))
  | [] => some []
  | .tup ds :: r => match ints? ds with
    | some ns => (match tints? r with
      | some rs => some (ns :: rs)
      | none => none)
    | none => none
  | _ :: _ => none
def tupI (ns : List Int) : PD := .tup (ns.map .int)
def lexIns (x : List Int) : List (List Int) → List (List Int)
  | [] => [x]
  | y :: ys => if HT.lexLt y x then y :: lexIns x ys else x :: y :: ys
/-- rising -/
def lexSort : List (List Int) → List (List Int)
  | [] => []
  | x :: xs => lexIns x (lexSort xs)
/-- each once -/
def dedup : List (List Int) → List (List Int)
  | [] => []
  | x :: xs => if x ∈ xs then dedup xs else x :: dedup xs
def intIns (x : Int) : List Int → List Int
  | [] => [x]
  | y :: ys => if y < x then y :: intIns x ys else x :: y :: ys
def intSort : List Int → List Int
  | [] => []
  | x :: xs => intIns x (intSort xs)
def maxL : Int → List Int → Int
  | m, [] => m
  | m, x :: xs => maxL (if x > m then x else m) xs
def minL : Int → List Int → Int
  | m, [] => m
  | m, x :: xs => minL (if x < m then x else m) xs
mutual
/-- the same key -/
def keq : PD → PD → Bool
  | .int i, .int j => decide (i = j)
  | .str x, .str y => decide (x = y)
  | .tup xs, .tup ys => keqs xs ys
  | _, _ => false
def keqs : List PD → List PD → Bool
  | [], [] => true
  | x :: xs, y :: ys => keq x y && keqs xs ys
  | _, _ => false
end
def getP (kvs : List (PD × PD)) (x : PD) : Option PD := (kvs.find? fun p => keq p.1 x).map (·.2)
def putP (kvs : List (PD × PD)) (x d : PD) : List (PD × PD) := if (kvs.any fun p => keq p.1 x) = true then kvs.map (fun p => if keq p.1 x = true then (p.1, d) else p) else kvs ++ [(x, d)]
def flatK : PD → Bool
  | .int _ => true
  | .str _ => true
  | _ => false
/-- a key of this kind of dict -/
def keyOk : Bool → PD → Bool
  | false, x => flatK x
  | true, .tup ds => ds.all flatK
  | _, _ => false
def mulOk (i j : Int) : Prop := i.natAbs.log2 + j.natAbs.log2 < 60000000 ∨ i.natAbs < 2 ^ 62 ∨ j.natAbs < 2 ^ 62
instance (i j : Int) : Decidable (mulOk i j) := by unfold mulOk; infer_instance
def divOk (j : Int) : Prop := j ≠ 0 ∧ j.natAbs.log2 < 9000
instance (j : Int) : Decidable (divOk j) := by unfold divOk; infer_instance
def powOk (i j : Int) : Prop := 0 ≤ j ∧ j ≤ 1000000 ∧ i.natAbs < 2 ^ 64
instance (i j : Int) : Decidable (powOk i j) := by unfold powOk; infer_instance

/-- texts alone -/
def strs? : List PD → Option (List Str)
  | [] => some []
  | .str i :: r => match strs? r with
    | some ns => some (i :: ns)
    | none => none
  | _ :: _ => none
def strIns (x : Str) : List Str → List Str
  | [] => [x]
  | y :: ys => if ltCps y.cps.toList x.cps.toList then y :: strIns x ys else x :: y :: ys
/-- texts, rising -/
def strSort : List Str → List Str
  | [] => []
  | x :: xs => strIns x (strSort xs)
abbrev okI (i : Int) : R Sl := .ok (.v (.int i))
abbrev okB (b : Bool) : R Sl := .ok (.v (.bl b))

/-- of what a text is told -/
def shOk (d : PyData) : Bool := d.showable && d.canLay0 && decide (d.depth ≤ 50) && d.leavesShort 1921 && decide (d.bulk ≤ 8000)
/-- one operand -/
inductive U where
  | neg | len | abs | int1 | tuple1 | list1 | sum | all | any | str1 | max1 | min1 | sorted1 | strd
  deriving DecidableEq
def uSem : U → PD → R Sl
  | .neg, .int i => okI (-i)
  | .len, .lst xs => okI xs.length
  | .len, .tup xs => okI xs.length
  | .len, .str x => if x.length ≤ sizeLine then okI x.length else .st
  | .abs, .int i => okI (if i < 0 then -i else i)
  | .int1, .int i => okI i
  | .str1, .int i => if i.natAbs.log2 < 1920 then .ok (.v (.str (toString i))) else .st
  | .str1, .str x => .ok (.v (.str x))
  | .strd, .lst xs => if shOk (.list (pys xs)) = true then .ok (.v (.str (PyData.list (pys xs)).shown)) else .st
  | .strd, .tup xs => if shOk (.tuple (pys xs)) = true then .ok (.v (.str (PyData.tuple (pys xs)).shown)) else .st
  | .max1, .lst xs => match ints? xs with
    | some (n :: ns) => okI (maxL n ns)
    | _ => .st
  | .min1, .lst xs => match ints? xs with
    | some (n :: ns) => okI (minL n ns)
    | _ => .st
  | .max1, .tup xs => match ints? xs with
    | some (n :: ns) => okI (maxL n ns)
    | _ => .st
  | .min1, .tup xs => match ints? xs with
    | some (n :: ns) => okI (minL n ns)
    | _ => .st
  | .int1, .str a => if a.length ≤ 640 then (match PySem.intText? a with
    | some n => okI n
    | none => .st) else .st
  | .sorted1, .lst xs => match ints? xs with
    | some ns => .ok (.l ((intSort ns).map .int))
    | none => match tints? xs with
      | some L => if L.all (fun ns => !ns.isEmpty) then .ok (.l ((lexSort L).map tupI)) else .st
      | none => match strs? xs with
        | some ss => if ss.length < 64 then .ok (.l ((strSort ss).map .str)) else .st
        | none => .st
  | .int1, .bl b => okI (if b then 1 else 0)
  | .tuple1, .lst xs => .ok (.v (.tup xs))
  | .tuple1, .tup xs => .ok (.v (.tup xs))
  | .list1, .lst xs => .ok (.l xs)
  | .list1, .tup xs => .ok (.l xs)
  | .sum, .lst xs => match ints? xs with
    | some ns => okI ns.sum
    | none => .st
  | .all, .lst xs => match bls? xs with
    | some bs => okB (bs.all id)
    | none => .st
  | .any, .lst xs => match bls? xs with
    | some bs => okB (bs.any id)
    | none => .st
  | _, _ => .st

/-- two operands -/
inductive B where
  | add | sub | mul | fdiv | mod | pow | eq | ne | lt | le | gt | ge | inn | nin | is | isn | idx | max2 | min2 | divm
  deriving DecidableEq
def eqS (a b : PD) : R Bool := if SeqAt.shaped a.py && SeqAt.shaped b.py then .ok (PyData.eqv a.py b.py) else .st
def inS (x : PD) (ys : List PD) : R Bool :=
  if SeqAt.shaped x.py && SeqAt.shaped (PyData.list (pys ys)) then .ok ((pys ys).any fun z => PyData.eqv z x.py) else .st
def isS : PD → PD → R Bool
  | .non, .non => .ok true
  | .bl _, .non => .ok false
  | .int _, .non => .ok false
  | .str _, .non => .ok false
  | .tup _, .non => .ok false
  | .lst _, .non => .ok false
  | .dct _, .non => .ok false
  | .exn _, .non => .ok false
  | .bl a, .bl b => .ok (decide (a = b))
  | _, _ => .st
/-- a text so often -/
def repS (a : Str) (n : Nat) : Str := ⟨(List.replicate n a.cps).foldl (· ++ ·) #[]⟩
def bSem : B → PD → PD → R Sl
  | .add, .int i, .int j => okI (i + j)
  | .add, .str a, .str b => if a.length + b.length ≤ sizeLine then .ok (.v (.str (a ++ b))) else .st
  | .add, .tup a, .tup b => if a.length + b.length ≤ sizeLine then .ok (.v (.tup (a ++ b))) else .st
  | .add, .lst a, .lst b => if a.length + b.length ≤ sizeLine then .ok (.l (a ++ b)) else .st
  | .sub, .int i, .int j => okI (i - j)
  | .mul, .int i, .int j => if mulOk i j then okI (i * j) else .st
  | .mul, .str a, .int n => if 2 ≤ n ∧ n < 2147483648 ∧ 1 ≤ a.length ∧ a.length * n.toNat ≤ sizeLine then .ok (.v (.str (repS a n.toNat))) else .st
  | .fdiv, .int i, .int j => if divOk j then okI (i.fdiv j) else .st
  | .mod, .int i, .int j => if j ≠ 0 then okI (i.fmod j) else .st
  | .pow, .int i, .int j => if powOk i j then okI (i ^ j.toNat) else .st
  | .eq, a, b => (eqS a b).bind fun c => okB c
  | .ne, a, b => (eqS a b).bind fun c => okB (!c)
  | .lt, .int i, .int j => okB (decide (i < j))
  | .lt, .tup a, .tup b => match ints? a, ints? b with
    | some ns, some ms => okB (HT.lexLt ns ms)
    | _, _ => .st
  | .le, .int i, .int j => okB (decide (i ≤ j))
  | .le, .tup a, .tup b => match ints? a, ints? b with
    | some ns, some ms => okB (!HT.lexLt ms ns)
    | _, _ => .st
  | .gt, .int i, .int j => okB (decide (j < i))
  | .ge, .int i, .int j => okB (decide (j ≤ i))
  | .ge, .tup a, .tup b => match ints? a, ints? b with
    | some ns, some ms => okB (!HT.lexLt ns ms)
    | _, _ => .st
  | .inn, .int i, .tup ys => match ints? ys with
    | some ns => okB (decide (i ∈ ns))
    | none => .st
  | .nin, .int i, .tup ys => match ints? ys with
    | some ns => okB (!decide (i ∈ ns))
    | none => .st
  | .inn, .str a, .str b => match a with
    | ⟨⟨[c]⟩⟩ => okB (decide (c ∈ b.cps.toList))
    | _ => .st
  | .inn, x, .lst ys => (inS x ys).bind fun c => okB c
  | .nin, x, .lst ys => (inS x ys).bind fun c => okB (!c)
  | .is, a, b => (isS a b).bind fun c => okB c
  | .isn, a, b => (isS a b).bind fun c => okB (!c)
  | .idx, .lst xs, .int i => match atI xs i with
    | some d => .ok (.v d)
    | none => .st
  | .idx, .tup xs, .int i => match atI xs i with
    | some d => .ok (.v d)
    | none => .st
  | .idx, .str x, .int i => if x.length ≤ sizeLine then (match atI x.cps.toList i with
    | some c => .ok (.v (.str ⟨#[c]⟩))
    | none => .st) else .st
  | .max2, .int i, .int j => okI (if j > i then j else i)
  | .min2, .int i, .int j => okI (if j < i then j else i)
  | .divm, .int i, .int j => if 0 < j ∧ j < 1073741824 then .ok (.v (.tup [.int (i.fdiv j), .int (i.fmod j)])) else .st
  | _, _, _ => .st

/-- methods of one operand -/
inductive Mo where
  | index | join | split | strip
  deriving DecidableEq
def Mo.nm : Mo → Str
  | .index => "index"
  | .join => "join"
  | .split => "split"
  | .strip => "strip"
/-- whose method it is -/
def mK : Mo → PD → Bool
  | .index, .lst _ => true
  | .join, .str _ => true
  | .split, .str _ => true
  | .strip, .str _ => true
  | _, _ => false
def mSem : Mo → PD → PD → R Sl
  | .index, .lst xs, y => if (SeqAt.shaped y.py && SeqAt.shaped (PyData.list (pys xs))) = true then (match (pys xs).findIdx? (fun z => PyData.eqv z y.py) with
    | some j => okI j
    | none => .st) else .st
  | .join, .str a, .lst ys => (match strs? ys with
    | some ts => if (ts.map (·.length)).sum + ts.length * a.length ≤ 16777216 then .ok (.v (.str (Txt.join a ts))) else .st
    | none => .st)
  | .strip, .str a, .str b => if a.length ≤ sizeLine then .ok (.v (.str (Txt.stripChars a b))) else .st
  | .split, .str a, .str b => if (b.length == 0) = false ∧ a.length + 2 ≤ sizeLine then .ok (.l ((Txt.split a b).map .str)) else .st
  | _, _, _ => .st

/-- what isinstance is asked of: a built-in class by its name, an own one by its number -/
inductive Ty where
  | bt (n : String)
  | cl (c : Nat)
  deriving DecidableEq

def PD.tyName : PD → Option String
  | .non => some "NoneType"
  | .bl _ => some "bool"
  | .int _ => some "int"
  | .str _ => some "str"
  | .tup _ => some "tuple"
  | .lst _ => some "list"
  | .dct _ => some "dict"
  | .exn _ => none
  | .pot => none

/-- a part of a list -/
def cutP (xs : List PD) (lo hi : Option Int) : List PD := (xs.drop (HT.sIx xs.length 0 lo)).take (HT.sIx xs.length xs.length hi - HT.sIx xs.length 0 lo)
def slS : PD → Option Int → Option Int → R Sl
  | .lst xs, lo, hi => .ok (.l (cutP xs lo hi))
  | .tup xs, lo, hi => .ok (.v (.tup (cutP xs lo hi)))
  | .str x, lo, hi => if x.length ≤ sizeLine then .ok (.v (.str (cutS x lo hi))) else .st
  | _, _, _ => .st

/-- where a value goes -/
inductive Tg where
  | nm (i : Nat)
  | tp (ts : Tg)
  | nil
  | cons (t ts : Tg)

mutual
def bindT : Tg → PD → En → R En
  | .nm i, d, ρ => .ok (ρ.set i (some (.v d)))
  | .tp ts, .tup ds, ρ => bindTs ts ds ρ
  | .tp ts, .lst ds, ρ => bindTs ts ds ρ
  | _, _, _ => .st
def bindTs : Tg → List PD → En → R En
  | .nil, [], ρ => .ok ρ
  | .cons t ts, d :: ds, ρ => (bindT t d ρ).bind fun ρ' => bindTs ts ds ρ'
  | _, _, _ => .st
end

/-- expressions; lists of them; what a loop walks -/
inductive E where
  | var (i : Nat)
  | lit (d : PD)
  | glo (j : Nat)
  | u (o : U) (a : E)
  | b (o : B) (a c : E)
  | isi (many : Bool) (ts : List Ty) (a : E)
  | slc (a lo hi : E)
  | rev (a : E)
  | rep (a c : E)
  | and (a c : E)
  | or (a c : E)
  | not (a : E)
  | ite (c a d : E)
  | chn (o p : B) (a c d : E)
  | chn3 (o p q : B) (a c d e : E)
  | mth (o : Mo) (a e : E)
  | qcall (f : Nat) (es : E)
  | lrng (a c : E)
  | mkx (c : Nat) (e : E)
  | tup (es : E)
  | lst (es : E)
  | nil
  | cons (e es : E)
  | call (f : Nat) (es : E)
  | comp (own : List (Str × Nat)) (t : Tg) (it c e : E)
  | bor (e : E)
  | seq (e : E)
  | rng (es : E)
  | zip (a c : E)
  | enum (a : E)
  | no
  | dct0 (t : Bool)
  | dct1 (a c : E)
  | pget (i : Nat) (e : E)
  | oget (i : Nat) (e : E)
  | kin (n : Bool) (i : Nat) (e : E)
  | kget (i : Nat) (e : E)
  | kgetd (i : Nat) (e d : E)
  | klen (i : Nat)
  | sset (e : E)
  | sortk (i : Nat)

/-- the defs that are called, by number; constants; classes: which tell of which -/
structure Gs where
  fn : Nat → List PD → R Sl
  glo : Nat → PD
  sub : Nat → Nat → Bool
  nc : Nat
  pr : Int → Option (Option Int) := fun _ => none
  tk : Bool := false

def asB (r : R Sl) : R Bool := r.bind fun s => match s with
  | .v (.bl b) => .ok b
  | _ => .st
def asP (r : R Sl) : R PD := r.bind fun s => .ok s.pd
def asI (r : R Sl) : R Int := r.bind fun s => match s with
  | .v (.int b) => .ok b
  | _ => .st

def tyB (n : String) : Ty → Option Bool
  | .bt m => if m = "int" then some (decide (n = "int" ∨ n = "bool")) else if m = "bool" ∨ m = "tuple" ∨ m = "list" ∨ m = "str" then some (decide (n = m)) else if m = "ValueError" then some false else none
  | .cl _ => some false
/-- isinstance of data, of a refusal -/
def isiS (g : Gs) : PD → Ty → Option Bool
  | .exn c, .cl j => if c < g.nc ∧ j < g.nc then some (g.sub c j) else none
  | .exn c, .bt m => if c < g.nc ∧ m = "ValueError" then some true else none
  | d, t => match d.tyName with
    | some n => tyB n t
    | none => none
def isiAny (g : Gs) (d : PD) : List Ty → Option Bool
  | [] => some false
  | t :: ts => match isiS g d t with
    | some true => some true
    | some false => isiAny g d ts
    | none => none

def wipeE (ρ : En) : List Nat → En
  | [] => ρ
  | v :: vs => (wipeE ρ vs).set v none

/-- a comprehension's items, one by one -/
def compGo (bd : PD → En → R En) (c : En → R Bool) (e : En → R PD) (ρ : En) : List PD → R (List PD)
  | [] => .ok []
  | x :: xs => (bd x ρ).bind fun ρ' => (c ρ').bind fun b =>
      if b then (e ρ').bind fun d => (compGo bd c e ρ xs).bind fun ds => .ok (d :: ds) else compGo bd c e ρ xs

def rngItems (lo hi : Int) : List PD := (List.range (hi - lo).toNat).map fun (i : Nat) => .int (lo + i)
def rngStep (lo : Int) (n : Nat) (c : Int) : List PD := (List.range n).map fun (i : Nat) => .int (lo + i * c)
def smallI (i : Int) : Prop := -(2 ^ 62) ≤ i ∧ i < 2 ^ 62
instance (i : Int) : Decidable (smallI i) := by unfold smallI; infer_instance
def rngS : List PD → R (List PD)
  | [.int j] => if smallI j then .ok (rngItems 0 j) else .st
  | [.int i, .int j] => if smallI i ∧ smallI j then .ok (rngItems i j) else .st
  | [.int i, .int j, .int (-1)] => if smallI i ∧ smallI j then .ok (rngStep i (i - j).toNat (-1)) else .st
  | _ => .st

def enumGo : Nat → List PD → List PD
  | _, [] => []
  | n, x :: xs => .tup [.int n, x] :: enumGo (n + 1) xs

def enumS : PD → R (List PD)
  | .lst xs => .ok (enumGo 0 xs)
  | _ => .st
def toSeq : PD → R (List PD)
  | .lst xs => .ok xs
  | .tup xs => .ok xs
  | .str x => .ok (x.cps.toList.map fun c => .str ⟨#[c]⟩)
  | _ => .st

def zipP (xs ys : List PD) : List PD := (xs.zip ys).map fun (p : PD × PD) => .tup [p.1, p.2]
def zipS : PD → PD → R (List PD)
  | .lst xs, .lst ys => .ok (zipP xs ys)
  | .tup xs, .tup ys => .ok (zipP xs ys)
  | _, _ => .st

mutual
def ev (g : Gs) : E → En → R Sl
  | .var i, ρ => match ρ[i]? with
    | some (some (.v d)) => .ok (.v d)
    | _ => .st
  | .lit d, _ => .ok (.v d)
  | .glo j, _ => .ok (.v (g.glo j))
  | .u o a, ρ => (asP (ev g a ρ)).bind (uSem o)
  | .b o a c, ρ => (asP (ev g a ρ)).bind fun x => (asP (ev g c ρ)).bind (bSem o x)
  | .isi _ ts a, ρ => (asP (ev g a ρ)).bind fun x => match isiAny g x ts with
    | some b => okB b
    | none => .st
  | .slc a lo hi, ρ => (asP (ev g a ρ)).bind fun x => (evo g lo ρ).bind fun i => (evo g hi ρ).bind fun j => slS x i j
  | .rev a, ρ => (asP (ev g a ρ)).bind fun x => match x with
    | .lst xs => .ok (.l xs.reverse)
    | .tup xs => .ok (.v (.tup xs.reverse))
    | _ => .st
  | .rep a c, ρ => (ev g a ρ).bind fun s => (asI (ev g c ρ)).bind fun n => match s with
    | .l xs => if -(2 ^ 63) ≤ n ∧ n < 2 ^ 63 ∧ xs.length * n.toNat ≤ sizeLine then .ok (.l (List.replicate n.toNat xs).flatten) else .st
    | _ => .st
  | .and a c, ρ => (asB (ev g a ρ)).bind fun b => if b then (asB (ev g c ρ)).bind fun b' => okB b' else okB false
  | .or a c, ρ => (asB (ev g a ρ)).bind fun b => if b then okB true else (asB (ev g c ρ)).bind fun b' => okB b'
  | .not a, ρ => (asB (ev g a ρ)).bind fun b => okB (!b)
  | .ite c a d, ρ => (asB (ev g c ρ)).bind fun b => if b then ev g a ρ else ev g d ρ
  | .chn o p a c d, ρ => (asP (ev g a ρ)).bind fun x => (asP (ev g c ρ)).bind fun y => (asB (bSem o x y)).bind fun b =>
      if b then (asP (ev g d ρ)).bind fun z => (asB (bSem p y z)).bind fun b' => okB b' else okB false
  | .chn3 o p q a c d e, ρ => (asP (ev g a ρ)).bind fun x => (asP (ev g c ρ)).bind fun y => (asB (bSem o x y)).bind fun b =>
      if b then (asP (ev g d ρ)).bind fun z => (asB (bSem p y z)).bind fun b' => if b' then (asP (ev g e ρ)).bind fun w => (asB (bSem q z w)).bind fun b2 => okB b2 else okB false else okB false
  | .mth o a e, ρ => (asP (ev g a ρ)).bind fun x => if mK o x = true then (asP (ev g e ρ)).bind (mSem o x) else .st
  | .lrng a c, ρ => (asI (ev g a ρ)).bind fun i => (asI (ev g c ρ)).bind fun j => if smallI i ∧ smallI j ∧ (j - i).toNat ≤ 16777216 then .ok (.l (rngItems i j)) else .st
  | .mkx c e, ρ => (asP (ev g e ρ)).bind fun _ => if c < g.nc then .ok (.v (.exn c)) else .st
  | .tup es, ρ => (evs g es ρ).bind fun ds => if ds.length ≤ sizeLine then .ok (.v (.tup ds)) else .st
  | .lst es, ρ => (evs g es ρ).bind fun ds => if ds.length ≤ sizeLine then .ok (.l ds) else .st
  | .call f es, ρ => (evs g es ρ).bind (g.fn f)
  | .qcall f es, ρ => ((evs g es ρ).bind (g.fn f)).nox
  | .comp own t it c e, ρ => (evi g it ρ).bind fun xs => if xs.length < sizeLine then
      (compGo (bindT t) (fun ρ' => asB (ev g c ρ')) (fun ρ' => asP (ev g e ρ')) (wipeE ρ (own.map (·.2))) xs).nox.bind (fun ds => .ok (.l ds)) else .st
  | .dct0 t, _ => .ok (.k t [])
  | .pget i e, ρ => match ρ[i]? with
    | some (some (.v .pot)) => (asI (ev g e ρ)).bind fun j => match g.pr j with
      | some m => .ask m fun n => .ok (.v (.int n))
      | none => .st
    | _ => .st
  | .oget i e, ρ => match ρ[i]? with
    | some (some (.l ds)) => (asI (ev g e ρ)).bind fun j => match atI ds j with
      | some d => .ok (.v d)
      | none => .st
    | _ => .st
  | .kin n i e, ρ => match ρ[i]? with
    | some (some (.k t kvs)) => (asP (ev g e ρ)).bind fun x => if keyOk t x = true ∧ g.tk = false then okB (Bool.xor n (getP kvs x).isSome) else .st
    | _ => .st
  | .kget i e, ρ => match ρ[i]? with
    | some (some (.k t kvs)) => (asP (ev g e ρ)).bind fun x => if keyOk t x = true ∧ g.tk = false then (match getP kvs x with
      | some d => .ok (.v d)
      | none => .st) else .st
    | _ => .st
  | .kgetd i e d, ρ => match ρ[i]? with
    | some (some (.k t kvs)) => (asP (ev g e ρ)).bind fun x => (asP (ev g d ρ)).bind fun y => if keyOk t x = true ∧ g.tk = false then .ok (.v ((getP kvs x).getD y)) else .st
    | _ => .st
  | .klen i, ρ => match ρ[i]? with
    | some (some (.k _ kvs)) => okI kvs.length
    | _ => .st
  | .sset e, ρ => (asP (ev g e ρ)).bind fun x => match x with
    | .lst xs => (match tints? xs with
      | some L => if L.length < 64 ∧ L.all (fun ns => !ns.isEmpty) = true then .ok (.l ((lexSort (dedup L)).map tupI)) else .st
      | none => .st)
    | _ => .st
  | .sortk i, ρ => match ρ[i]? with
    | some (some (.k true kvs)) => (match tints? (kvs.map (·.1)) with
      | some L => if L.all (fun ns => !ns.isEmpty) = true then .ok (.l ((lexSort L).map tupI)) else .st
      | none => .st)
    | _ => .st
  | .dct1 a c, ρ => (asI (ev g a ρ)).bind fun i => (asP (ev g c ρ)).bind fun x => if x.flat then .ok (.k false [(.int i, x)]) else .st
  | .bor e, ρ => (ev g e (thaw ρ)).bind fun s => match s with
    | .v d => if d.flat then .ok (.v d) else .st
    | _ => .st
  | _, _ => .st
def evo (g : Gs) : E → En → R (Option Int)
  | .no, _ => .ok none
  | .cons e .no, ρ => (asI (ev g e ρ)).bind fun i => .ok (some i)
  | _, _ => .st
def evs (g : Gs) : E → En → R (List PD)
  | .nil, _ => .ok []
  | .cons e es, ρ => (asP (ev g e ρ)).bind fun d => (evs g es ρ).bind fun ds => .ok (d :: ds)
  | _, _ => .st
def evi (g : Gs) : E → En → R (List PD)
  | .seq e, ρ => (asP (ev g e ρ)).bind toSeq
  | .rng es, ρ => (evs g es ρ).bind rngS
  | .zip a c, ρ => (asP (ev g a ρ)).bind fun x => (asP (ev g c ρ)).bind (zipS x)
  | .enum a, ρ => (asP (ev g a ρ)).bind enumS
  | _, _ => .st
end

/-- how a statement ends -/
inductive Out where
  | nx (ρ : En)
  | rt (s : Sl) (ρ : En)
  | bk (ρ : En)
  | ct (ρ : En)
  | ex (c : Nat) (ρ : En)
  | st
  | ask (m : Option Int) (k : Int → Out)

def R.out {α : Type} : R α → En → (α → Out) → Out
  | .ok a, _, f => f a
  | .ex c, ρ, _ => .ex c ρ
  | .st, _, _ => .st
  | .ask m k, ρ, f => .ask m fun i => (k i).out ρ f
@[simp] theorem R.out_ok {α : Type} (a : α) (ρ : En) (f : α → Out) : (R.ok a).out ρ f = f a := rfl
@[simp] theorem R.out_ex {α : Type} (c : Nat) (ρ : En) (f : α → Out) : (R.ex c).out ρ f = .ex c ρ := rfl
@[simp] theorem R.out_st {α : Type} (ρ : En) (f : α → Out) : (R.st : R α).out ρ f = .st := rfl
@[simp] theorem R.out_ask {α : Type} (m : Option Int) (k : Int → R α) (ρ : En) (f : α → Out) : (R.ask m k).out ρ f = .ask m fun i => (k i).out ρ f := rfl
/-- what follows a statement -/
def Out.go (n c b : En → Out) : Out → Out
  | .nx ρ => n ρ
  | .ct ρ => c ρ
  | .bk ρ => b ρ
  | .rt s ρ => .rt s ρ
  | .ex e ρ => .ex e ρ
  | .st => .st
  | .ask m k => .ask m fun i => (k i).go n c b
/-- a refusal is caught -/
def Out.catch (f : Nat → En → Out) : Out → Out
  | .ex c ρ => f c ρ
  | .ask m k => .ask m fun i => (k i).catch f
  | .nx ρ => .nx ρ
  | .rt s ρ => .rt s ρ
  | .bk ρ => .bk ρ
  | .ct ρ => .ct ρ
  | .st => .st
/-- a def's end -/
def Out.res : Out → R Sl
  | .nx _ => .ok (.v .non)
  | .rt s _ => .ok s
  | .ex c _ => .ex c
  | .ask m k => .ask m fun i => (k i).res
  | _ => .st

inductive S where
  | pass
  | set (i : Nat) (e : E)
  | own (i : Nat) (e : E)
  | frz (i : Nat)
  | unp (t : Tg) (e : E)
  | par (i j : Nat) (a c : E)
  | app (i : Nat) (e : E)
  | ext (i : Nat) (e : E)
  | pop (j i : Nat)
  | popd (i : Nat)
  | popa (i : Nat) (ix : E)
  | swp (i : Nat) (ix iy e : E)
  | put (i : Nat) (ix e : E)
  | kput (i : Nat) (ix e : E)
  | ins (i : Nat) (ix e : E)
  | pput (i : Nat) (ix e : E)
  | expr (e : E)
  | ret (e : E)
  | retm (i : Nat)
  | retn
  | ifs (c : E) (a d : S)
  | whl (fuel : En → Nat) (c : E) (bd : S)
  | fr (t : Tg) (it : E) (bd : S)
  | brk
  | cnt
  | raise (c : Nat)
  | tryc (bd : S) (c i : Nat) (q : S)
  | tryn (bd : S) (c : Nat) (q : S)
  | nil
  | seq (a r : S)

def runW (c : En → R Bool) (b : En → Out) : Nat → En → Out
  | 0, _ => .st
  | n + 1, ρ => (c ρ).out ρ fun t => if t then (b ρ).go (runW c b n) (runW c b n) .nx else .nx ρ
def runF (t : Tg) (b : En → Out) : List PD → En → Out
  | [], ρ => .nx ρ
  | x :: xs, ρ => (bindT t x ρ).out ρ fun ρ1 => (b ρ1).go (runF t b xs) (runF t b xs) .nx

def run (g : Gs) : S → En → Out
  | .pass, ρ => .nx ρ
  | .set i e, ρ => (asP (ev g e ρ)).out ρ fun d => .nx (ρ.set i (some (.v d)))
  | .own i e, ρ => (ev g e ρ).out ρ fun s => .nx (ρ.set i (some s))
  | .frz i, ρ => match ρ[i]? with
    | some (some s) => .nx (ρ.set i (some s.thaw))
    | _ => .st
  | .unp t e, ρ => (asP (ev g e ρ)).out ρ fun d => (bindT t d ρ).out ρ .nx
  | .par i j a c, ρ => (asP (ev g a ρ)).out ρ fun x => (asP (ev g c ρ)).out ρ fun y => .nx ((ρ.set i (some (.v x))).set j (some (.v y)))
  | .app i e, ρ => match ρ[i]? with
    | some (some (.l ds)) => (asP (ev g e ρ)).out ρ fun d => if ds.length < sizeLine then .nx (ρ.set i (some (.l (ds ++ [d])))) else .st
    | _ => .st
  | .ext i e, ρ => match ρ[i]? with
    | some (some (.l ds)) => (ev g e ρ).out ρ fun s => match s with
      | .l xs => if ds.length + xs.length ≤ sizeLine then .nx (ρ.set i (some (.l (ds ++ xs)))) else .st
      | _ => .st
    | _ => .st
  | .pop j i, ρ => match ρ[i]? with
    | some (some (.l ds)) => match ds.getLast? with
      | some d => if i = j then .st else .nx ((ρ.set i (some (.l ds.dropLast))).set j (some (.v d)))
      | none => .st
    | _ => .st
  | .popd i, ρ => match ρ[i]? with
    | some (some (.l ds)) => match ds.getLast? with
      | some _ => .nx (ρ.set i (some (.l ds.dropLast)))
      | none => .st
    | _ => .st
  | .popa i ix, ρ => match ρ[i]? with
    | some (some (.l ds)) => (asI (ev g ix ρ)).out ρ fun z => match ixN ds.length z with
      | some j => if -(2 ^ 62) < z ∧ z < 2 ^ 62 then .nx (ρ.set i (some (.l (ds.eraseIdx j)))) else .st
      | none => .st
    | _ => .st
  | .swp i ix iy e, ρ => match ρ[i]? with
    | some (some (.l ds)) => (asP (ev g e ρ)).out ρ fun d => match d with
      | .tup [a, b] => (asI (ev g ix ρ)).out ρ fun x => match ixN ds.length x with
        | some j => (asI (ev g iy (ρ.set i (some (.l (ds.set j a)))))).out (ρ.set i (some (.l (ds.set j a)))) fun y => match ixN (ds.set j a).length y with
          | some l => .nx ((ρ.set i (some (.l (ds.set j a)))).set i (some (.l ((ds.set j a).set l b))))
          | none => .st
        | none => .st
      | _ => .st
    | _ => .st
  | .put i ix e, ρ => match ρ[i]? with
    | some (some (.l ds)) => (asP (ev g e ρ)).out ρ fun d => (asI (ev g ix ρ)).out ρ fun k => match ixN ds.length k with
      | some j => .nx (ρ.set i (some (.l (ds.set j d))))
      | none => .st
    | _ => .st
  | .kput i ix e, ρ => match ρ[i]? with
    | some (some (.k t kvs)) => (asP (ev g e ρ)).out ρ fun d => (asP (ev g ix ρ)).out ρ fun x => if keyOk t x = true ∧ g.tk = false ∧ kvs.length < sizeLine then .nx (ρ.set i (some (.k t (putP kvs x d)))) else .st
    | _ => .st
  | .ins i ix e, ρ => match ρ[i]? with
    | some (some (.l ds)) => (asI (ev g ix ρ)).out ρ fun j => (asP (ev g e ρ)).out ρ fun d => if 0 ≤ j ∧ j < 2 ^ 62 ∧ ds.length < sizeLine then .nx (ρ.set i (some (.l (ds.take j.toNat ++ [d] ++ ds.drop j.toNat)))) else .st
    | _ => .st
  | .pput i ix e, ρ => match ρ[i]? with
    | some (some (.v .pot)) => (asI (ev g e ρ)).out ρ fun n => (asI (ev g ix ρ)).out ρ fun j => match g.pr j with
      | some m => if inR m n then .nx ρ else .st
      | none => .st
    | _ => .st
  | .expr e, ρ => (ev g e ρ).out ρ fun _ => .nx ρ
  | .ret e, ρ => (ev g e ρ).out ρ fun s => .rt s ρ
  | .retm i, ρ => match ρ[i]? with
    | some (some s) => .rt s ρ
    | _ => .st
  | .retn, ρ => .rt (.v .non) ρ
  | .ifs c a d, ρ => (asB (ev g c ρ)).out ρ fun b => if b then run g a ρ else run g d ρ
  | .whl fuel c bd, ρ => runW (fun ρ => asB (ev g c ρ)) (run g bd) (fuel ρ) ρ
  | .fr t it bd, ρ => (evi g it ρ).out ρ fun xs => runF t (run g bd) xs ρ
  | .brk, ρ => .bk ρ
  | .cnt, ρ => .ct ρ
  | .raise c, ρ => .ex c ρ
  | .tryc bd c i q, ρ => (run g bd ρ).catch fun e ρ' => if e < g.nc ∧ c < g.nc then (if g.sub e c then (run g q (ρ'.set i (some (.v (.exn e))))).go (fun ρ => .nx (ρ.set i none)) (fun ρ => .ct (ρ.set i none)) (fun ρ => .bk (ρ.set i none)) else .ex e ρ') else .st
  | .tryn bd c q, ρ => (run g bd ρ).catch fun e ρ' => if e < g.nc ∧ c < g.nc then (if g.sub e c then run g q ρ' else .ex e ρ') else .st
  | .nil, ρ => .nx ρ
  | .seq a r, ρ => (run g a ρ).go (run g r) .ct .bk

/-- a def: how many names, how many parameters, its body -/
def start0 (n : Nat) (ds : List PD) : En := ds.map (fun d => some (.v d)) ++ List.replicate (n - ds.length) none
def den (g : Gs) (n m : Nat) (s : S) (ds : List PD) : R Sl :=
  if ds.length = m then (run g s (start0 n ds)).res else .st
end FS

set_option maxRecDepth 100000
set_option autoImplicit false
/-! The state of a frame against what the small language has, and the readings by it. -/
namespace FS
open PySem PySem.Spec L2

structure Sx where
  H0 : Hp
  Rg : Addr → Prop
  hid : Addr → Prop

def Sl.isOwn : Sl → Bool
  | .v _ => false
  | _ => true
def ownA (ρ : En) (σ : St) (a : Addr) : Prop := ∃ (i : Nat) (s : Sl), ρ[i]? = some (some s) ∧ s.isOwn = true ∧ σ[i]? = some (some (V.ref a))
def regP (S : Sx) (ρ : En) (σ : St) (a : Addr) : Prop := (S.Rg a ∨ S.H0 a = none) ∧ ¬ S.hid a ∧ ¬ ownA ρ σ a
noncomputable abbrev reg (S : Sx) (ρ : En) (σ : St) (H : Hp) : Hp := part (regP S ρ σ) H

def DictAt (k : Kx) (G H : Hp) (t : Bool) (kvs : List (PD × PD)) (a : Addr) : Prop :=
  (t = false ∧ ∃ ks, H a = some (.dK ks) ∧ RepK k G kvs ks) ∨ (t = true ∧ ∃ ks, H a = some (.dT ks) ∧ RepT k G kvs ks)
def SlotOk (k : Kx) (G H : Hp) : Sl → V → Prop
  | .v d, v => Rep k G d v
  | .l ds, v => ∃ a vs, v = .ref a ∧ H a = some (.lst vs) ∧ Reps k G ds vs
  | .k t kvs, v => ∃ a, v = .ref a ∧ DictAt k G H t kvs a

theorem DictAt.mono {k : Kx} {G G' H H' : Hp} {f : Bool} {kvs : List (PD × PD)} {a : Addr} (s : Same G G') (t : Same H H') (h : DictAt k G H f kvs a) : DictAt k G' H' f kvs a := by
  rcases h with ⟨et, ks, q, r⟩ | ⟨et, ks, q, r⟩
  · exact .inl ⟨et, ks, t _ _ q, RepK.mono s r⟩
  · exact .inr ⟨et, ks, t _ _ q, RepT.mono s r⟩
theorem SlotOk.mono {k : Kx} {G G' H H' : Hp} {s : Sl} {v : V} (g : Same G G') (t : Same H H') (h : SlotOk k G H s v) : SlotOk k G' H' s v := by
  cases s with
  | v d => exact Rep.mono g h
  | l ds => obtain ⟨a, vs, e, q, r⟩ := h; exact ⟨a, vs, e, t _ _ q, Reps.mono g r⟩
  | k ft kvs => obtain ⟨a, e, q⟩ := h; exact ⟨a, e, q.mono g t⟩

structure StOk (k : Kx) (S : Sx) (ρ : En) (σ : St) (H : Hp) : Prop where
  len : σ.length = ρ.length
  same : Same S.H0 H
  slot : ∀ (i : Nat) (s : Sl), ρ[i]? = some (some s) → ∃ v, σ[i]? = some (some v) ∧ SlotOk k (reg S ρ σ H) H s v
  new : ∀ a, ownA ρ σ a → S.H0 a = none
  hid : ∀ a, S.hid a → ∃ u, H a = some u
  inj : ∀ (i j : Nat) (s t : Sl) (a : Addr), ρ[i]? = some (some s) → s.isOwn = true → ρ[j]? = some (some t) → t.isOwn = true → σ[i]? = some (some (V.ref a)) → σ[j]? = some (some (V.ref a)) → i = j

theorem StOk.mono {k : Kx} {S : Sx} {ρ : En} {σ : St} {H H' : Hp} (h : StOk k S ρ σ H) (t : Same H H') : StOk k S ρ σ H' :=
  ⟨h.len, h.same.trans t, fun i s e => by
    obtain ⟨v, e1, q⟩ := h.slot i s e
    exact ⟨v, e1, q.mono (part_mono t fun _ _ _ z => z) t⟩, h.new, fun a z => by
      obtain ⟨u, e⟩ := h.hid a z
      exact ⟨u, t _ _ e⟩, h.inj⟩
/-- what a frame owns is there -/
theorem StOk.there {k : Kx} {S : Sx} {ρ : En} {σ : St} {H : Hp} (h : StOk k S ρ σ H) {a : Addr} (o : ownA ρ σ a) : ∃ u, H a = some u := by
  obtain ⟨i, s, e1, e2, e3⟩ := o
  obtain ⟨v, e4, q⟩ := h.slot i s e1
  rw [e3] at e4
  cases e4
  cases s with
  | v d => cases e2
  | l ds => obtain ⟨b, vs, e, q1, _⟩ := q; cases e; exact ⟨_, q1⟩
  | k ft kvs =>
    obtain ⟨b, e, q⟩ := q
    cases e
    rcases q with ⟨_, ks, q, _⟩ | ⟨_, ks, q, _⟩
    · exact ⟨_, q⟩
    · exact ⟨_, q⟩
theorem StOk.fresh {k : Kx} {S : Sx} {ρ : En} {σ : St} {H : Hp} (h : StOk k S ρ σ H) {a : Addr} (e : H a = none) : regP S ρ σ a :=
  ⟨.inr (h.same.free e), (fun o => by
    obtain ⟨u, q⟩ := h.hid a o
    rw [e] at q; cases q), (fun o => by
    obtain ⟨u, q⟩ := h.there o
    rw [e] at q; cases q)⟩
theorem StOk.le {k : Kx} {S : Sx} {ρ : En} {σ : St} {H : Hp} (_ : StOk k S ρ σ H) : Same (reg S ρ σ H) H := part_le

/-- what an expression hands back -/
def ResOk (k : Kx) (p : Addr → Prop) (H H' : Hp) : Sl → V → Prop
  | .v d, v => Rep k (part p H') d v
  | .l ds, v => ∃ a vs, v = .ref a ∧ H a = none ∧ H' a = some (.lst vs) ∧ Reps k (part (fun b => p b ∧ b ≠ a) H') ds vs
  | .k t kvs, v => ∃ a, v = .ref a ∧ H a = none ∧ DictAt k (part (fun b => p b ∧ b ≠ a) H') H' t kvs a
theorem ResOk.mono {k : Kx} {p : Addr → Prop} {H H' H'' : Hp} {s : Sl} {v : V} (t : Same H' H'') (h : ResOk k p H H' s v) : ResOk k p H H'' s v := by
  cases s with
  | v d => exact Rep.mono (part_mono t fun _ _ _ z => z) h
  | l ds =>
    obtain ⟨a, vs, e, n, q, r⟩ := h
    exact ⟨a, vs, e, n, t _ _ q, Reps.mono (part_mono t fun _ _ _ z => z) r⟩
  | k ft kvs =>
    obtain ⟨a, e, n, q⟩ := h
    exact ⟨a, e, n, q.mono (part_mono t fun _ _ _ z => z) t⟩
theorem ResOk.back {k : Kx} {p : Addr → Prop} {H H' H'' : Hp} {s : Sl} {v : V} (t : Same H H') (h : ResOk k p H' H'' s v) : ResOk k p H H'' s v := by
  cases s with
  | v d => exact h
  | l ds =>
    obtain ⟨a, vs, e, n, q, r⟩ := h
    exact ⟨a, vs, e, t.free n, q, r⟩
  | k ft kvs =>
    obtain ⟨a, e, n, q⟩ := h
    exact ⟨a, e, t.free n, q⟩
theorem ResOk.pd {k : Kx} {p : Addr → Prop} {H H' : Hp} {s : Sl} {v : V} (f : ∀ a, H a = none → p a) (h : ResOk k p H H' s v) : Rep k (part p H') s.pd v := by
  cases s with
  | v d => exact h
  | l ds =>
    obtain ⟨a, vs, rfl, n, q, r⟩ := h
    refine Rep.lst (.inl (.inl ?_)) (Reps.mono (part_mono (Same.refl _) fun _ _ _ z => z.1) r)
    rw [part_eq (f a n)]; exact q
  | k ft kvs =>
    obtain ⟨a, rfl, n, q⟩ := h
    show Rep k (part p H') (.dct kvs) (.ref a)
    simp only [Rep]
    refine ⟨a, rfl, ?_⟩
    rcases q with ⟨et, ks, q, r⟩ | ⟨et, ks, q, r⟩
    · exact .inl ⟨ks, .inl (by rw [part_eq (f a n)]; exact q), RepK.mono (part_mono (Same.refl _) fun _ _ _ z => z.1) r⟩
    · exact .inr ⟨ks, by rw [part_eq (f a n)]; exact q, RepT.mono (part_mono (Same.refl _) fun _ _ _ z => z.1) r⟩
/-- a flat thing leans on nothing -/
theorem Rep.flat {k : Kx} {G G' : Hp} {d : PD} {v : V} (f : d.flat = true) (h : Rep k G d v) : Rep k G' d v := by
  cases d <;> first | (simp only [Rep] at h ⊢; exact h) | cases f

def tR {α : Type} (k : Kx) (W : WX) (σ : St) (H : Hp) : R α → (α → Prop) → Prop
  | .ok a, f => f a
  | .ex c, _ => ∀ H', Same H H' → W (k.cv c) none σ H'
  | .st, _ => False
  | .ask m r, f => ∀ i, inR m i → tR k W σ H (r i) f
theorem tR.mono {α : Type} {k : Kx} {W : WX} {σ : St} {H H' : Hp} {r : R α} {f g : α → Prop} (t : Same H H') (h : tR k W σ H r f) (i : ∀ a, r.Leaf a → f a → g a) : tR k W σ H' r g := by
  induction r with
  | ok a => exact i a rfl h
  | ex c => exact fun H2 s => h H2 (t.trans s)
  | st => exact h.elim
  | ask m r ih => exact fun j h0 => ih j (h j h0) fun a l => i a ⟨j, l⟩
theorem tR.bind {α β : Type} {k : Kx} {W : WX} {σ : St} {H : Hp} {r : R α} {F : α → R β} {f : β → Prop} (h : tR k W σ H (r.bind F) f) : tR k W σ H r fun a => tR k W σ H (F a) f := by
  induction r with
  | ok a => exact h
  | ex c => exact h
  | st => exact h
  | ask m r ih => exact fun j h0 => ih j (h j h0)
theorem tR.mk {α β : Type} {k : Kx} {W : WX} {σ : St} {H : Hp} {r : R α} {F : α → R β} {f : β → Prop} (h : tR k W σ H r fun a => tR k W σ H (F a) f) : tR k W σ H (r.bind F) f := by
  induction r with
  | ok a => exact h
  | ex c => exact h
  | st => exact h
  | ask m r ih => exact fun j h0 => ih j (h j h0)
theorem tR.asP {k : Kx} {W : WX} {σ : St} {H : Hp} {r : R Sl} {f : PD → Prop} (h : tR k W σ H (asP r) f) : tR k W σ H r fun s => f s.pd := tR.bind h
theorem tR.asB {k : Kx} {W : WX} {σ : St} {H : Hp} {r : R Sl} {f : Bool → Prop} (h : tR k W σ H (asB r) f) : tR k W σ H r fun s => ∃ b, s = .v (.bl b) ∧ f b :=
  (tR.bind h).mono (Same.refl _) fun s _ z => by
    cases s with
    | v d => cases d <;> first | exact ⟨_, rfl, z⟩ | exact z.elim
    | l d => exact z.elim
    | k _ d => exact z.elim
theorem tR.asI {k : Kx} {W : WX} {σ : St} {H : Hp} {r : R Sl} {f : Int → Prop} (h : tR k W σ H (asI r) f) : tR k W σ H r fun s => ∃ b, s = .v (.int b) ∧ f b :=
  (tR.bind h).mono (Same.refl _) fun s _ z => by
    cases s with
    | v d => cases d <;> first | exact ⟨_, rfl, z⟩ | exact z.elim
    | l d => exact z.elim
    | k _ d => exact z.elim

/-! ### the readings -/
def tE (k : Kx) (W : WX) (f : En → R Sl) : TE := fun σ H Q => ∃ S ρ, StOk k S ρ σ H ∧ tR k W σ H (f ρ) fun s => ∀ v H', Same H H' → ResOk k (regP S ρ σ) H H' s v → Q v H'
def tT (k : Kx) (W : WX) (f : En → R Bool) : TT := fun σ H Q => ∃ S ρ, StOk k S ρ σ H ∧ tR k W σ H (f ρ) fun b => ∀ H', Same H H' → Q b H'
def tA (k : Kx) (W : WX) (f : En → R (List PD)) : TA := fun σ H Q => ∃ S ρ, StOk k S ρ σ H ∧ tR k W σ H (f ρ) fun ds => ∀ vs H', Same H H' → Reps k (reg S ρ σ H') ds vs → Q vs H'
/-- an iterator that yields these -/
def Yl (k : Kx) (G H : Hp) (d : PD) (x : V) (H' : Hp) : Prop :=
  (H' = H ∧ Rep k G d x) ∨ ∃ T vs ds, H T = none ∧ H' = upd H T (.tup vs) ∧ x = .ref T ∧ d = .tup ds ∧ Reps k G ds vs
def Goes (k : Kx) (J : It) (G : Hp) (ds : List PD) : Prop :=
  ∀ (i : Nat) (G2 H2 : Hp), Same G G2 → Same G2 H2 → (∀ d, ds[i]? = some d → J.go i H2 ∧ ∀ x H3, J.yld i H2 x H3 → Yl k G2 H2 d x H3) ∧ (ds.length ≤ i → J.stop i H2)
def tI (k : Kx) (W : WX) (f : En → R (List PD)) : TI := fun σ H Rr => ∃ S ρ, StOk k S ρ σ H ∧ tR k W σ H (f ρ) fun ds => ∀ J H', Same H H' → Goes k J (reg S ρ σ H') ds → Rr J H'

def RetOk (k : Kx) (S : Sx) (H' : Hp) (s : Sl) (v : V) : Prop := ResOk k (fun a => S.Rg a ∨ S.H0 a = none) S.H0 H' s v
def tO (k : Kx) (W : WX) (S : Sx) (ρ : En) (D : Ends) (σ : St) (H : Hp) : Out → Prop
  | .nx ρ' => ∀ σ' H', StOk k S ρ' σ' H' → Same (reg S ρ σ H) (reg S ρ' σ' H') → D.nx σ' H'
  | .rt s ρ' => ∀ v σ' H1 H', StOk k S ρ' σ' H1 → Same H1 H' → Same (reg S ρ σ H) (reg S ρ' σ' H1) → RetOk k S H' s v → D.rt v H'
  | .bk ρ' => ∀ σ' H', StOk k S ρ' σ' H' → Same (reg S ρ σ H) (reg S ρ' σ' H') → D.bk σ' H'
  | .ct ρ' => ∀ σ' H', StOk k S ρ' σ' H' → Same (reg S ρ σ H) (reg S ρ' σ' H') → D.ct σ' H'
  | .ex c ρ' => ∀ σ' H', StOk k S ρ' σ' H' → Same (reg S ρ σ H) (reg S ρ' σ' H') → W (k.cv c) none σ' H'
  | .st => False
  | .ask m r => ∀ i, inR m i → tO k W S ρ D σ H (r i)
def tS (k : Kx) (W : WX) (f : En → Out) : TS := fun D σ H => ∃ S ρ, StOk k S ρ σ H ∧ tO k W S ρ D σ H (f ρ)

theorem pe_imp {X : Cx} {e : Expr} {t t' : TE} (h : PE X e t) (i : ∀ σ H Q, t' σ H Q → t σ H Q) : PE X e t' := ⟨fun pins s σ H Q I q => h.run pins s σ H Q I (i σ H Q q)⟩
theorem pt_imp {X : Cx} {e : Expr} {t t' : TT} (h : PT X e t) (i : ∀ σ H Q, t' σ H Q → t σ H Q) : PT X e t' := ⟨fun pins s σ H Q I q => h.run pins s σ H Q I (i σ H Q q)⟩
theorem pw_imp {X : Cx} {e : Expr} {t t' : TT} (h : PW X e t) (i : ∀ σ H Q, t' σ H Q → t σ H Q) : PW X e t' := ⟨fun wh pins s σ H Q I q => h.run wh pins s σ H Q I (i σ H Q q)⟩
theorem pa_imp {X : Cx} {e : List Expr} {t t' : TA} (h : PA X e t) (i : ∀ σ H Q, t' σ H Q → t σ H Q) : PA X e t' := ⟨fun pos pins s σ H Q I q => h.run pos pins s σ H Q I (i σ H Q q)⟩
theorem pi_imp {X : Cx} {tg e : Expr} {t t' : TI} (h : PI X tg e t) (i : ∀ σ H Q, t' σ H Q → t σ H Q) : PI X tg e t' := ⟨fun pins s σ H Q I q => h.run pins s σ H Q I (i σ H Q q)⟩
theorem ps_imp {X : Cx} {e : Stmt} {t t' : TS} (h : PS X e t) (i : ∀ D σ H, t' D σ H → t D σ H) : PS X e t' := ⟨fun pins s σ H D I q => h.run pins s σ H D I (i D σ H q)⟩
theorem pss_imp {X : Cx} {e : List Stmt} {t t' : TS} (h : PSs X e t) (i : ∀ D σ H, t' D σ H → t D σ H) : PSs X e t' := ⟨fun pins s σ H D I q => h.run pins s σ H D I (i D σ H q)⟩

section
variable {k : Kx} {W : WX} {f g h : En → R Sl} {S : Sx} {ρ : En} {σ : St} {H : Hp}

theorem tE.of (st : StOk k S ρ σ H) {Q : VK} (q : tR k W σ H (f ρ) fun s => ∀ v H', Same H H' → ResOk k (regP S ρ σ) H H' s v → Q v H') : tE k W f σ H Q := ⟨S, ρ, st, q⟩
/-- as data -/
theorem tE.data (st : StOk k S ρ σ H) {Q : VK} (q : tR k W σ H (asP (f ρ)) fun d => ∀ v H', Same H H' → Rep k (reg S ρ σ H') d v → Q v H') : tE k W f σ H Q :=
  ⟨S, ρ, st, (tR.asP q).mono (Same.refl _) fun s _ z v H' t r => z v H' t (r.pd fun a n => st.fresh n)⟩

/-! ### an operation with two operands -/
def OpOk (k : Kx) (r : R2) (bs : PD → PD → R Sl) : Prop :=
  ∀ x y, (bs x y).plain ∧ ∀ s, bs x y = .ok s → ∀ (p : Addr → Prop) (H : Hp) (v u : V) (Q : VK), (∀ a, H a = none → p a) → Rep k (part p H) x v → Rep k (part p H) y u →
    (∀ w H', Same H H' → ResOk k p H H' s w → Q w H') → r v u H Q
theorem imp_op {r : R2} {bs : PD → PD → R Sl} (ho : OpOk k r bs) {Q : VK} (q : tE k W (fun ρ => (asP (f ρ)).bind fun x => (asP (g ρ)).bind (bs x)) σ H Q) : tOp r (tE k W f) (tE k W g) σ H Q := by
  obtain ⟨S, ρ, st, q⟩ := q
  refine tE.data st (q.bind.mono (Same.refl _) fun x _ q v H1 t1 r1 => ?_)
  have st1 := st.mono t1
  refine tE.data st1 (q.bind.mono t1 fun y _ q u H2 t2 r2 => ?_)
  have st2 := st1.mono t2
  obtain ⟨ne, go⟩ := ho x y
  cases e : bs x y with
  | ex c => rw [e] at ne; exact ne.elim
  | ask _ _ => rw [e] at ne; exact ne.elim
  | st => rw [e] at q; exact q.elim
  | ok s =>
    rw [e] at q
    refine go s e (regP S ρ σ) H2 v u Q (fun a n => st2.fresh n) (Rep.mono (part_mono t2 fun _ _ _ z => z) r1) r2 fun w H3 t3 r3 => ?_
    exact q w H3 ((t1.trans t2).trans t3) (r3.back (t1.trans t2))

def UnOk (k : Kx) (r : V → Hp → VK → Prop) (us : PD → R Sl) : Prop :=
  ∀ x, (us x).plain ∧ ∀ s, us x = .ok s → ∀ (p : Addr → Prop) (H : Hp) (v : V) (Q : VK), (∀ a, H a = none → p a) → Rep k (part p H) x v →
    (∀ w H', Same H H' → ResOk k p H H' s w → Q w H') → r v H Q
theorem imp_un {r : V → Hp → VK → Prop} {us : PD → R Sl} (ho : UnOk k r us) {Q : VK} (q : tE k W (fun ρ => (asP (f ρ)).bind us) σ H Q) : tUn r (tE k W f) σ H Q := by
  obtain ⟨S, ρ, st, q⟩ := q
  refine tE.data st (q.bind.mono (Same.refl _) fun x _ q v H1 t1 r1 => ?_)
  have st1 := st.mono t1
  obtain ⟨ne, go⟩ := ho x
  cases e : us x with
  | ex c => rw [e] at ne; exact ne.elim
  | ask _ _ => rw [e] at ne; exact ne.elim
  | st => rw [e] at q; exact q.elim
  | ok s =>
    rw [e] at q
    refine go s e (regP S ρ σ) H1 v Q (fun a n => st1.fresh n) r1 fun w H3 t3 r3 => ?_
    exact q w H3 (t1.trans t3) (r3.back t1)
end
end FS

set_option maxRecDepth 100000
set_option autoImplicit false
set_option maxHeartbeats 1000000
/-! Tuples of whole numbers: the greatest, the least, not below. -/
namespace FS
open PySem PySem.Spec L2 PyProof.Rows
section
variable {prog : Program} {w : World} {A : Around} {E : Value → Shared → Prop} {s : Shared} {l : Addr} {xs : Array (Int × Tok)}
theorem iter_intTup {Q : Value → Shared → Prop} (hl : s.heap.IsTuple l (intItems xs))
    (h : ∀ s₂ : Shared, s₂ = { s with heap := s.heap.push { cls := .type "tuple_iterator", data := .fields #[.ref l, .int 0 0] } } →
      (s₂.heap.IsTupleIter s.heap.objs.size l 0 ∧ s₂.heap.IsTuple l (intItems xs)) → (∀ b ∈ [s.heap.objs.size, l], b < s₂.heap.objs.size) → l ≠ s.heap.objs.size → Q (.ref s.heap.objs.size) s₂) :
    wpAny (model prog w) A (pyIter (.ref l)) Q E s := by
  have hlt : l < s.heap.objs.size := by obtain ⟨_, e, _⟩ := hl; exact Heap.lt_size e
  refine wpAny_pyIter_tuple hl (h _ rfl ⟨⟨_, Heap.get?_push_size _ rfl, rfl, rfl⟩, hl.push _⟩ (fun b hb => ?_) (Nat.ne_of_lt hlt))
  show b < (s.heap.push _).objs.size
  rw [Heap.size_push]
  rcases List.mem_cons.mp hb with rfl | hb
  · exact Nat.lt_succ_self _
  · rcases List.mem_cons.mp hb with rfl | hb
    · exact Nat.lt_succ_of_lt hlt
    · cases hb
theorem old_keptT {h' : Heap} (hk : ∀ b o, b ∉ [s.heap.objs.size] → (s.heap.push { cls := .type "tuple_iterator", data := .fields #[.ref l, .int 0 0] }).get? b = some o → h'.get? b = some o) :
    ∀ b o, s.heap.get? b = some o → h'.get? b = some o := fun b o e => by
  refine hk b o (fun hm => ?_) (Heap.get?_push_of_some _ e)
  rcases List.mem_cons.mp hm with e1 | hm
  · exact absurd (e1 ▸ Heap.lt_size e) (Nat.lt_irrefl _)
  · cases hm
theorem max_intTup {Q : Value → Shared → Prop} (hh : A.handled = none) (hl : s.heap.IsTuple l (intItems xs)) (hne : 0 < xs.size)
    (h : ∀ v h' tk, (intItems xs)[argBest (fun i j => decide (numAt xs i > numAt xs j)) (xs.size - 1)]? = some v → (∀ b o, s.heap.get? b = some o → h'.get? b = some o) → Q v { s with heap := h', toks := tk }) :
    wpAny (model prog w) A (call (.builtin "max") [.ref l]) Q E s := by
  refine call_max_walk (iter_intTup hl fun s₂ e st hfp hlI => ?_)
  subst e
  refine ⟨_, _, _, _, _, _, _, rfl, Walks.tuple (A := A.in1) hh _ l hlI (intItems xs), st, hfp, by simpa [intItems] using hne, CmpOf.ints_gt (numAt xs) (fun _ _ => intItems_at), fun v h' tk hP hk => ?_⟩
  exact h v h' tk (by simpa [intItems] using hP) (old_keptT hk)
theorem min_intTup {Q : Value → Shared → Prop} (hh : A.handled = none) (hl : s.heap.IsTuple l (intItems xs)) (hne : 0 < xs.size)
    (h : ∀ v h' tk, (intItems xs)[argBest (fun i j => decide (numAt xs i < numAt xs j)) (xs.size - 1)]? = some v → (∀ b o, s.heap.get? b = some o → h'.get? b = some o) → Q v { s with heap := h', toks := tk }) :
    wpAny (model prog w) A (call (.builtin "min") [.ref l]) Q E s := by
  refine call_min_walk (iter_intTup hl fun s₂ e st hfp hlI => ?_)
  subst e
  refine ⟨_, _, _, _, _, _, _, rfl, Walks.tuple (A := A.in1) hh _ l hlI (intItems xs), st, hfp, by simpa [intItems] using hne, CmpOf.ints_lt (numAt xs) (fun _ _ => intItems_at), fun v h' tk hP hk => ?_⟩
  exact h v h' tk (by simpa [intItems] using hP) (old_keptT hk)
variable {its : List Value} {ns : List Int}
theorem max_rawT (hh : A.handled = none) (hl : s.heap.IsTuple l its.toArray) (hi : IntsAre its ns) (hne : 0 < ns.length) {Q : Value → Shared → Prop}
    (h : ∀ h' tk M t', (∀ b o, s.heap.get? b = some o → h'.get? b = some o) → M ∈ ns → (∀ a, a ∈ ns → a ≤ M) → Q (.int M t') { s with heap := h', toks := tk }) : wpAny (model prog w) A (call (.builtin "max") [.ref l]) Q E s := by
  obtain ⟨xs, e⟩ := hi.allInts.items
  have hn : numsOf (intItems xs).toList = ns := by rw [← e]; exact hi.numsOf
  rw [nums_intItems] at hn
  subst hn
  rw [e] at hl
  have hsz : 0 < xs.size := by simpa using hne
  refine max_intTup hh hl hsz fun v h' tk hv hk => ?_
  obtain ⟨t, rfl⟩ := intItems_at hv
  obtain ⟨h1, h2⟩ := argBest_gt (numAt xs) (xs.size - 1)
  refine h h' tk _ t hk ?_ fun a ha => ?_
  · rw [numAt_eq]; exact PySem.getD_mem (by rw [List.length_map, Array.length_toList]; omega)
  · obtain ⟨j, hj, rfl⟩ := mem_getD ha
    rw [List.length_map, Array.length_toList] at hj
    rw [← numAt_eq]; exact h2 j (by omega)
theorem min_rawT (hh : A.handled = none) (hl : s.heap.IsTuple l its.toArray) (hi : IntsAre its ns) (hne : 0 < ns.length) {Q : Value → Shared → Prop}
    (h : ∀ h' tk M t', (∀ b o, s.heap.get? b = some o → h'.get? b = some o) → M ∈ ns → (∀ a, a ∈ ns → M ≤ a) → Q (.int M t') { s with heap := h', toks := tk }) : wpAny (model prog w) A (call (.builtin "min") [.ref l]) Q E s := by
  obtain ⟨xs, e⟩ := hi.allInts.items
  have hn : numsOf (intItems xs).toList = ns := by rw [← e]; exact hi.numsOf
  rw [nums_intItems] at hn
  subst hn
  rw [e] at hl
  have hsz : 0 < xs.size := by simpa using hne
  refine min_intTup hh hl hsz fun v h' tk hv hk => ?_
  obtain ⟨t, rfl⟩ := intItems_at hv
  obtain ⟨h1, h2⟩ := argBest_lt (numAt xs) (xs.size - 1)
  refine h h' tk _ t hk ?_ fun a ha => ?_
  · rw [numAt_eq]; exact PySem.getD_mem (by rw [List.length_map, Array.length_toList]; omega)
  · obtain ⟨j, hj, rfl⟩ := mem_getD ha
    rw [List.length_map, Array.length_toList] at hj
    rw [← numAt_eq]; exact h2 j (by omega)
end
section
variable {X : Cx}
def rMaxT (K : PySem.W.Frag) : List V → Hp → VK → Prop := fun vs H Q => ∃ (a : Addr) (ns : List Int), vs = [V.ref a] ∧ SqT K H a (ns.map V.int) ∧ 0 < ns.length ∧ ∀ m, m ∈ ns → (∀ y, y ∈ ns → y ≤ m) → Q (.int m) H
def rMinT (K : PySem.W.Frag) : List V → Hp → VK → Prop := fun vs H Q => ∃ (a : Addr) (ns : List Int), vs = [V.ref a] ∧ SqT K H a (ns.map V.int) ∧ 0 < ns.length ∧ ∀ m, m ∈ ns → (∀ y, y ∈ ns → m ≤ y) → Q (.int m) H
theorem cr_maxT (hc : X.calm = true) : CallR X (.builtin "max") (rMaxT X.K) := by
  intro pins s σ H vs us Q I r h
  obtain ⟨a, ns, rfl, hs, hne, q⟩ := h
  obtain ⟨its, rv, hl, _⟩ := I.tuple hs
  rw [Vals.ref1 r]
  exact max_rawT (I.ok.hd hc) hl rv.ints hne fun h' tk m t' hk h1 h2 => ⟨.int _, H, I.kept hk, ⟨_, rfl⟩, q m h1 h2⟩
theorem cr_minT (hc : X.calm = true) : CallR X (.builtin "min") (rMinT X.K) := by
  intro pins s σ H vs us Q I r h
  obtain ⟨a, ns, rfl, hs, hne, q⟩ := h
  obtain ⟨its, rv, hl, _⟩ := I.tuple hs
  rw [Vals.ref1 r]
  exact min_rawT (I.ok.hd hc) hl rv.ints hne fun h' tk m t' hk h1 h2 => ⟨.int _, H, I.kept hk, ⟨_, rfl⟩, q m h1 h2⟩
theorem first_ge : ∀ (ns ms : List Int), SeqAt.firstLt (fun j => decide (ns.getD j 0 = ms.getD j 0)) (fun j => decide (ns.getD j 0 ≥ ms.getD j 0)) (decide (ns.length ≥ ms.length)) (List.range (min ns.length ms.length)) = !HT.lexLt ns ms
  | [], [] => rfl
  | [], _ :: _ => by simp [SeqAt.firstLt, HT.lexLt]
  | _ :: _, [] => by simp [SeqAt.firstLt, HT.lexLt]
  | x :: xs, y :: ys => by
    have ih := first_ge xs ys
    have sh : ∀ (e r : Nat → Bool) (f : Bool) (l : List Nat), SeqAt.firstLt e r f (l.map Nat.succ) = SeqAt.firstLt (fun j => e (j + 1)) (fun j => r (j + 1)) f l := by
      intro e r f l
      induction l with
      | nil => rfl
      | cons a l ih => rw [List.map_cons, SeqAt.firstLt, SeqAt.firstLt, ih]
    rw [List.length_cons, List.length_cons, Nat.succ_min_succ, List.range_succ_eq_map, HT.lexLt_cons]
    by_cases h : x = y
    · rw [SeqAt.firstLt_yes (by simp [h]), sh, if_pos h, ← ih]
      simp
    · rw [SeqAt.firstLt_no (by simp [h]), if_neg h]
      simp only [List.getD_cons_zero]
      by_cases h2 : x < y
      · rw [decide_eq_true h2, decide_eq_false (by omega)]; rfl
      · rw [decide_eq_false h2, decide_eq_true (by omega)]; rfl
theorem lexAt_shift {e r : Nat → Bool} {z : Bool} : ∀ (k i : Nat), Ob.lexAt e r z (i + 1) k = Ob.lexAt (fun j => e (j + 1)) (fun j => r (j + 1)) z i k
  | 0, _ => rfl
  | k + 1, i => by rw [Ob.lexAt_succ, Ob.lexAt_succ, lexAt_shift k (i + 1)]
theorem le_lex : ∀ (ns ms : List Int), Ob.lexAt (fun j => decide (ns.getD j 0 = ms.getD j 0)) (fun j => decide (ns.getD j 0 ≤ ms.getD j 0)) (decide (ns.length ≤ ms.length)) 0 (min ns.length ms.length) = !HT.lexLt ms ns
  | [], [] => rfl
  | [], _ :: _ => by simp [Ob.lexAt, HT.lexLt]
  | _ :: _, [] => by simp [Ob.lexAt, HT.lexLt]
  | x :: xs, y :: ys => by
    have ih := le_lex xs ys
    rw [List.length_cons, List.length_cons, Nat.succ_min_succ, HT.lexLt_cons]
    rw [Ob.lexAt_succ]
    by_cases h : x = y
    · rw [if_pos (by simp [h]), lexAt_shift, if_pos h.symm, ← ih]
      simp
    · rw [if_neg (by simp [h]), if_neg (fun q => h q.symm)]
      simp only [List.getD_cons_zero]
      by_cases h2 : y < x
      · rw [decide_eq_true h2, decide_eq_false (by omega)]; rfl
      · rw [decide_eq_false h2, decide_eq_true (by omega)]; rfl
def rLe2 (K : PySem.W.Frag) : R2 := fun x y H Q => ∃ (a b : Addr) (ns ms : List Int), x = .ref a ∧ y = .ref b ∧ SqT K H a (ns.map V.int) ∧ SqT K H b (ms.map V.int) ∧ Q (.bl (!HT.lexLt ms ns)) H
theorem op_le2 (hu : X.A.units < cLine) : OpR X (compareOp .LtE) (rLe2 X.K) := by
  intro pins s σ H x y v u Q I rx ry h
  obtain ⟨a, b, ns, ms, e1, e2, ha, hb, q⟩ := h
  exact op_leT hu pins s σ H x y v u Q I rx ry ⟨a, b, ns, ms, e1, e2, ha, hb, by rw [le_lex]; exact q⟩
def rGeT (K : PySem.W.Frag) : R2 := fun x y H Q => ∃ (a b : Addr) (ns ms : List Int), x = .ref a ∧ y = .ref b ∧ SqT K H a (ns.map V.int) ∧ SqT K H b (ms.map V.int) ∧ Q (.bl (!HT.lexLt ns ms)) H
theorem op_geT (hu : X.A.units < cLine) : OpR X (compareOp .GtE) (rGeT X.K) := by
  intro pins s σ H x y v u Q I rx ry h
  obtain ⟨a, b, ns, ms, rfl, rfl, ha, hb, q⟩ := h
  cases rx
  cases ry
  obtain ⟨its, r1, p1, _⟩ := I.tuple ha
  obtain ⟨its2, r2, p2, _⟩ := I.tuple hb
  have i1 : IntsAre its ns := Vals.ints r1
  have i2 : IntsAre its2 ms := Vals.ints r2
  have e1 : its.toArray.size = ns.length := by rw [List.size_toArray]; exact i1.length
  have e2 : its2.toArray.size = ms.length := by rw [List.size_toArray]; exact i2.length
  have at1 : ∀ j (h1 : j < its.toArray.size), ∃ t, its.toArray[j] = .int (ns.getD j 0) t := fun j h1 => PyProof.Rows.IntsAre.int_at i1 _ _ (by simp at h1; simp [h1])
  have at2 : ∀ j (h1 : j < its2.toArray.size), ∃ t, its2.toArray[j] = .int (ms.getD j 0) t := fun j h1 => PyProof.Rows.IntsAre.int_at i2 _ _ (by simp at h1; simp [h1])
  have R := SeqAt.RcOp.tuples_ge (A := X.A) (s := s) (e := fun j => decide (ns.getD j 0 = ms.getD j 0)) (r := fun j => decide (ns.getD j 0 ≥ ms.getD j 0)) p1 p2 hu (fun j h1 h2 => by
    obtain ⟨t, et⟩ := at1 j h1
    obtain ⟨t', et'⟩ := at2 j h2
    rw [et, et']
    have z : (ns.getD j 0 == ms.getD j 0) = decide (ns.getD j 0 = ms.getD j 0) := by
      by_cases q : ns.getD j 0 = ms.getD j 0
      · rw [decide_eq_true q]; exact beq_iff_eq.mpr q
      · rw [decide_eq_false q]; exact beq_eq_false_iff_ne.mpr q
    rw [← z]
    exact SeqAt.EqAt.int_int _ _ _ _) (fun j h1 h2 _ => by
    obtain ⟨t, et⟩ := at1 j h1
    obtain ⟨t', et'⟩ := at2 j h2
    rw [et, et']
    exact fun _ _ _ _ h => PyProof.Rows.ge_int h)
  rw [e1, e2, first_ge] at R
  have z : wpAny (model X.prog X.w) X.A (compareOp .GtE (.ref a) (.ref b)) (EP X pins σ Q) X.xe s := R X.prog X.w X.xe (EP X pins σ Q) ⟨.bl _, H, I, rfl, q⟩
  exact z
end
end FS

set_option maxRecDepth 100000
set_option autoImplicit false
set_option maxHeartbeats 1000000
/-! The operations' rules against what the small language has of them. -/
namespace FS
open PySem PySem.Spec L2

/-! ### data that can be compared -/
mutual
theorem Rep.dp {k : Kx} {G H : Hp} (s : Same G H) : ∀ {d : PD} {v : V}, Rep k G d v → d.py.canLay0 = true → Dp k.K H v d.py
  | .non, _, h, _ => by rw [h.ofNon]; exact .non
  | .bl b, _, h, _ => by rw [h.ofBl]; exact .bl b
  | .int i, _, h, _ => by rw [h.ofInt]; exact .int i
  | .str x, _, h, _ => by rw [h.ofStr]; exact .str x
  | .tup ds, _, h, c => by
    obtain ⟨a, vs, rfl, q, r⟩ := h.ofTup
    refine Dp.tup (sqT_mono s q) (Reps.dp s r ?_)
    simpa only [PD.py, PyData.canLay0] using c
  | .lst ds, _, h, c => by
    obtain ⟨a, vs, rfl, q, r⟩ := h.ofLst
    refine Dp.lst (q.mono s).sql (Reps.dp s r ?_)
    simpa only [PD.py, PyData.canLay0] using c
  | .dct _, _, _, c => by simp only [PD.py, PyData.canLay0] at c; cases c
  | .exn _, _, _, c => by simp only [PD.py, PyData.canLay0] at c; cases c
theorem Reps.dp {k : Kx} {G H : Hp} (s : Same G H) : ∀ {ds : List PD} {vs : List V}, Reps k G ds vs → PyData.canLayAll0 (pys ds) = true → DpAll k.K H vs (pys ds)
  | [], _, h, _ => by rw [Reps.nil_iff.mp h]; exact .nil
  | d :: ds, _, h, c => by
    obtain ⟨v, ws, rfl, q, r⟩ := Reps.cons_iff.mp h
    simp only [pys, PyData.canLayAll0, Bool.and_eq_true] at c
    exact .cons (Rep.dp s q c.1) (Reps.dp s r c.2)
end
theorem Rep.dpS {k : Kx} {G H : Hp} (s : Same G H) {d : PD} {v : V} (h : Rep k G d v) (c : SeqAt.shaped d.py = true) : Dp k.K H v d.py := h.dp s (SeqAt.canLay_of_shaped c)

theorem ints?_eq : ∀ {ds : List PD} {ns : List Int}, ints? ds = some ns → ds = ns.map PD.int
  | [], ns, h => by simp [ints?] at h; subst h; rfl
  | d :: ds, ns, h => by
    cases d <;> simp only [ints?] at h <;> try cases h
    split at h
    · rename_i ms e
      cases h
      rw [ints?_eq e]; rfl
    · cases h
theorem bls?_eq : ∀ {ds : List PD} {ns : List Bool}, bls? ds = some ns → ds = ns.map PD.bl
  | [], ns, h => by simp [bls?] at h; subst h; rfl
  | d :: ds, ns, h => by
    cases d <;> simp only [bls?] at h <;> try cases h
    split at h
    · rename_i ms e
      cases h
      rw [bls?_eq e]; rfl
    · cases h

theorem ixN_lt {n : Nat} {i : Int} {j : Nat} (h : ixN n i = some j) : j < n := (ixN_seq h).2.1
theorem Reps.atI {k : Kx} {G : Hp} {ds : List PD} {vs : List V} {i : Int} {d : PD} (h : Reps k G ds vs) (e : L2.atI ds i = some d) : ∃ v, L2.atI vs i = some v ∧ Rep k G d v := by
  unfold L2.atI at e ⊢
  rw [h.length]
  cases q : ixN ds.length i with
  | none => rw [q] at e; cases e
  | some j => rw [q] at e; exact h.get e
theorem Reps.cut {k : Kx} {G : Hp} {ds : List PD} {vs : List V} (lo hi : Option Int) (h : Reps k G ds vs) : Reps k G (cutP ds lo hi) (cutV vs lo hi) := by
  unfold cutP cutV
  rw [h.length]
  exact Reps.take _ (Reps.drop _ h)
theorem Reps.flatRep {k : Kx} {G : Hp} {ds : List PD} {vs : List V} (h : Reps k G ds vs) : ∀ n, Reps k G (List.replicate n ds).flatten (List.replicate n vs).flatten
  | 0 => Reps.nil
  | n + 1 => by
    simp only [List.replicate_succ, List.flatten_cons]
    exact Reps.append h (Reps.flatRep h n)

theorem same_new {H : Hp} {p : Addr} {o : HO} (h : H p = none) : Same H (upd H p o) := fun b u e => by
  rw [upd_ne (ne_of_none e h)]; exact e
/-- a new list of things that are there -/
theorem ResOk.newL {k : Kx} {p : Addr → Prop} {H : Hp} {a : Addr} {ds : List PD} {vs : List V} (n : H a = none) (r : Reps k (part p H) ds vs) : ResOk k p H (upd H a (.lst vs)) (.l ds) (.ref a) :=
  ⟨a, vs, rfl, n, upd_same, Reps.mono (part_mono (same_new n) fun b o e z => ⟨z, ne_of_none e n⟩) r⟩
theorem ResOk.newT {k : Kx} {p : Addr → Prop} {H : Hp} {a : Addr} {ds : List PD} {vs : List V} (f : ∀ a, H a = none → p a) (n : H a = none) (r : Reps k (part p H) ds vs) : ResOk k p H (upd H a (.tup vs)) (.v (.tup ds)) (.ref a) :=
  Rep.tup (.inl (by rw [part_eq (f a n)]; exact upd_same)) (Reps.mono (part_mono (same_new n) fun _ _ _ z => z) r)

section
variable {X : Cx}
theorem ls_obj {pins : List (Addr × Obj)} {σ : St} {H : Hp} {t : Shared} (I : Inv X pins σ H t) {a : Addr} {xs : List V} (r : Ls X.K H a xs) :
    xs.length ≤ sizeLine ∧ ∃ (its : List Value) (n : Nat), Vals xs its ∧ t.heap.get? a = some { cls := .type "list", data := .seq its.toArray n } := by
  rcases r with r | ⟨its, n, e, z, v⟩
  · exact r.ok I.hok
  · refine ⟨?_, its.toList, n, v, by simpa using I.kIn a _ e⟩
    have := v.length
    simp only [Array.length_toList] at this
    omega
def rCatR (K : PySem.W.Frag) : R2 := fun x y H Q => ∃ l b xs zs, (x = .ref l ∧ y = .ref b) ∧ (Ls K H l xs ∧ Ls K H b zs) ∧ xs.length + zs.length ≤ sizeLine ∧ ∀ p, H p = none → Q (.ref p) (upd H p (.lst (xs ++ zs)))
theorem op_catR : OpR X (binaryOp .Add) (rCatR X.K) := by
  rintro pins s σ H x y v u Q I rx ry ⟨l, b, xs, zs, ⟨rfl, rfl⟩, ⟨hl, hb⟩, hz, q⟩
  cases rx; cases ry
  obtain ⟨z1, i1, n1, r1, e1⟩ := ls_obj I hl
  obtain ⟨z2, i2, n2, r2, e2⟩ := ls_obj I hb
  have w1 := r1.length
  have w2 := r2.length
  refine PySem.P.add_list e1 e2 ?_ (by simp only [List.size_toArray]; omega)
  rw [show i1.toArray ++ i2.toArray = (i1 ++ i2).toArray by simp]
  exact ⟨.ref _, _, I.lnew (t' := s.toks) (r1.append r2) (by simp only [List.length_append]; omega), rfl, q _ I.fresh⟩

/-! ### the rules by their operators -/
def rFdiv : R2 := rI (fun _ j => divOk j) fun i j => .int (i.fdiv j)
theorem op_fdivG : OpR X (binaryOp .FloorDiv) rFdiv := opI fun _ _ _ _ _ _ _ hc q => PyProof.Rows.floordiv_int hc.1 q (.inl (PyProof.noPylong_of_log2 hc.2))
theorem mulOk_ok {i j : Int} (h : mulOk i j) : PySem.IntMulOk i j := by
  rcases h with h | h | h
  · have b : ∀ x : Int, Builtin.Int.intBits x ≤ x.natAbs.log2 + 1 := fun x => by
      unfold Builtin.Int.intBits
      split <;> omega
    have h1 := b i
    have h2 := b j
    have e : bitsLine = 134217728 := by decide
    unfold PySem.IntMulOk
    intro z
    rw [Bool.and_eq_true] at z
    have z2 := z.2
    unfold Builtin.Int.intTooBig at z2
    rw [decide_eq_true_eq, e] at z2
    omega
  · exact PySem.IntMulOk.of_left (PySem.intBits_le_64 (by omega) (by omega))
  · exact PySem.IntMulOk.of_right (PySem.intBits_le_64 (by omega) (by omega))
theorem op_mulG : OpR X (binaryOp .Mult) (rI mulOk fun i j => .int (i * j)) := opI fun _ _ _ _ _ _ _ hc q => PyProof.Rows.mul_int q (mulOk_ok hc)
theorem rep_size (x : Array Nat) : ∀ (n : Nat) (acc : Array Nat), ((List.replicate n x).foldl (· ++ ·) acc).size = acc.size + x.size * n
  | 0, acc => by simp
  | n + 1, acc => by
    rw [List.replicate_succ, List.foldl_cons, rep_size x n, Array.size_append, Nat.mul_succ]; omega
theorem repS_len (a : Str) (n : Nat) : (repS a n).length = a.length * n := by
  show ((List.replicate n a.cps).foldl (· ++ ·) #[]).size = _
  rw [rep_size]
  show 0 + a.cps.size * n = a.cps.size * n
  omega
def rRepS : R2 := fun x y H Q => ∃ (a : Str) (n : Int), x = V.str a ∧ y = V.int n ∧ (2 ≤ n ∧ n < 2147483648 ∧ 1 ≤ a.length ∧ a.length * n.toNat ≤ sizeLine) ∧ Q (.str (repS a n.toNat)) H
theorem op_repS : OpR X (binaryOp .Mult) rRepS := by
  intro pins s σ H x y v u Q I rx ry h
  obtain ⟨a, n, rfl, rfl, ⟨h2, h3, h1, hz⟩, q⟩ := h
  obtain ⟨t, rfl⟩ := rx
  obtain ⟨t', rfl⟩ := ry
  have hs : sizeLine = 16777216 := by decide
  have e1 : (n == 1 || a.length == 0) = false := by
    rw [Bool.or_eq_false_iff, beq_eq_false_iff_ne, beq_eq_false_iff_ne]
    exact ⟨by omega, by omega⟩
  have hd : (a.length : Int) ≤ (2 ^ 63 - 1) / n := by
    have e3 : ((a.length * n.toNat : Nat) : Int) = (a.length : Int) * n := by
      rw [Int.natCast_mul, Int.toNat_of_nonneg (by omega)]
    exact (Int.le_ediv_iff_mul_le (by omega)).mpr (by rw [← e3]; omega)
  have hl : Builtin.Str.tooLong (a.length * n.toNat) = false := by
    unfold Builtin.Str.tooLong
    exact decide_eq_false (by omega)
  refine PySem.P.mul_str ?_ (fun _ _ => Int.not_lt.mpr hd) (fun _ _ => hl) ?_
  · rw [decide_eq_false (by omega), decide_eq_false (by omega)]; rfl
  · rw [if_neg (by omega), if_neg (by rw [e1]; exact Bool.false_ne_true)]
    refine ⟨?_, ?_⟩
    · show (repS a n.toNat).length ≤ sizeLine
      rw [repS_len]; exact hz
    · exact ⟨.str (repS a n.toNat), H, I.tok _, ⟨_, rfl⟩, q⟩
def rB (K : PySem.W.Frag) : B → R2
  | .add => fun x y H Q => (rI0 fun i j => .int (i + j)) x y H Q ∨ (∃ i j, x = .str i ∧ y = .str j ∧ i.length + j.length ≤ sizeLine ∧ Q (.str (i ++ j)) H) ∨ rCatA K x y H Q ∨ rCatR K x y H Q
  | .sub => rI0 fun i j => .int (i - j)
  | .mul => fun x y H Q => (rI mulOk fun i j => .int (i * j)) x y H Q ∨ rRepS x y H Q
  | .fdiv => rFdiv
  | .mod => rI (fun _ j => j ≠ 0) fun i j => .int (i.fmod j)
  | .pow => rI CPow fun i j => .int (i ^ j.toNat)
  | .eq => rEqD K
  | .ne => rNeD K
  | .lt => fun x y H Q => (rI0 fun i j => .bl (decide (i < j))) x y H Q ∨ rLtT K x y H Q
  | .le => fun x y H Q => (rI0 fun i j => .bl (decide (i ≤ j))) x y H Q ∨ rLe2 K x y H Q
  | .gt => rI0 fun i j => .bl (decide (j < i))
  | .ge => fun x y H Q => (rI0 fun i j => .bl (decide (j ≤ i))) x y H Q ∨ rGeT K x y H Q
  | .inn => fun x y H Q => rInD K x y H Q ∨ rIn K false x y H Q ∨ rInS x y H Q
  | .nin => fun x y H Q => rNotInD K x y H Q ∨ rIn K true x y H Q
  | .is => fun x y H Q => (y = .non ∧ Q (.bl (decide (x = .non))) H) ∨ rIsB x y H Q
  | .isn => fun x y H Q => (y = .non ∧ Q (.bl (!decide (x = .non))) H) ∨ rNotB x y H Q
  | .idx => rIx K
  | .max2 => fun x y H Q => ∃ i j, [x, y] = [V.int i, V.int j] ∧ Q (.int (if j > i then j else i)) H
  | .min2 => fun x y H Q => ∃ i j, [x, y] = [V.int i, V.int j] ∧ Q (.int (if j < i then j else i)) H
  | .divm => fun x y H Q => ∃ i j, [x, y] = [V.int i, V.int j] ∧ CDiv i j ∧ ∀ p, H p = none → Q (.ref p) (upd H p (.tup [.int (i / j), .int (i % j)]))

/-- the operator of a written operation -/
def B.bin : B → Option Operator
  | .add => some .Add
  | .sub => some .Sub
  | .mul => some .Mult
  | .fdiv => some .FloorDiv
  | .mod => some .Mod
  | .pow => some .Pow
  | _ => none
def B.cmp : B → Option CmpOp
  | .eq => some .Eq
  | .ne => some .NotEq
  | .lt => some .Lt
  | .le => some .LtE
  | .gt => some .Gt
  | .ge => some .GtE
  | .inn => some .In
  | .nin => some .NotIn
  | .is => some .Is
  | .isn => some .IsNot
  | _ => none
theorem opR_bin (o : B) (op : Operator) (e : o.bin = some op) : OpR X (binaryOp op) (rB X.K o) := by
  cases o <;> simp only [B.bin, Option.some.injEq, reduceCtorEq] at e <;> subst e
  · exact op_add.or (op_add_str.or (op_catA.or op_catR))
  · exact op_sub
  · exact op_mulG.or op_repS
  · exact op_fdivG
  · exact op_modN
  · exact op_pow
theorem opR_cmp (hu : X.A.units + 65 < cLine) (o : B) (op : CmpOp) (e : o.cmp = some op) : OpR X (compareOp op) (rB X.K o) := by
  cases o <;> simp only [B.cmp, Option.some.injEq, reduceCtorEq] at e <;> subst e
  · exact op_eqD (by omega)
  · exact op_neD (by omega)
  · exact op_lt.or (op_ltT (by omega))
  · exact op_le.or (op_le2 (by omega))
  · exact op_gt
  · exact op_ge.or (op_geT (by omega))
  · exact (op_inD hu).or (op_in_seq.or op_inS)
  · exact (op_notInD hu).or op_notIn_seq
  · exact op_isN.or op_isBl
  · exact op_notN.or op_notBl
end

theorem two_ints {k : Kx} {G : Hp} {i j : Int} {v u : V} (h : Rep k G (.int i) v) (h' : Rep k G (.int j) u) : v = .int i ∧ u = .int j := ⟨h.ofInt, h'.ofInt⟩
/-- a flat answer -/
theorem ResOk.flatI {k : Kx} {p : Addr → Prop} {H : Hp} {i : Int} : ResOk k p H H (.v (.int i)) (.int i) := show Rep k (part p H) (.int i) (.int i) from Rep.int
theorem ResOk.flatB {k : Kx} {p : Addr → Prop} {H : Hp} {i : Bool} : ResOk k p H H (.v (.bl i)) (.bl i) := show Rep k (part p H) (.bl i) (.bl i) from Rep.bl
theorem ResOk.flatS {k : Kx} {p : Addr → Prop} {H : Hp} {i : Str} : ResOk k p H H (.v (.str i)) (.str i) := show Rep k (part p H) (.str i) (.str i) from Rep.str

theorem eqS_ok {a b : PD} {c : Bool} (h : eqS a b = .ok c) : SeqAt.shaped a.py = true ∧ SeqAt.shaped b.py = true ∧ c = PyData.eqv a.py b.py := by
  unfold eqS at h
  split at h
  · rename_i q
    rw [Bool.and_eq_true] at q
    cases h
    exact ⟨q.1, q.2, rfl⟩
  · cases h
theorem eqS_ne {a b : PD} : (eqS a b).plain := by
  unfold eqS
  split <;> trivial
theorem inS_ok {a : PD} {b : List PD} {c : Bool} (h : inS a b = .ok c) : SeqAt.shaped a.py = true ∧ SeqAt.shaped (.list (pys b)) = true ∧ c = (pys b).any fun z => PyData.eqv z a.py := by
  unfold inS at h
  split at h
  · rename_i q
    rw [Bool.and_eq_true] at q
    cases h
    exact ⟨q.1, q.2, rfl⟩
  · cases h
theorem inS_ne {a : PD} {b : List PD} : (inS a b).plain := by
  unfold inS
  split <;> trivial
theorem isS_ne {a b : PD} : (isS a b).plain := by
  unfold isS
  split <;> trivial
theorem bindB {r : R Bool} {f : Bool → Bool} {s : Sl} (h : (r.bind fun c => okB (f c)) = .ok s) : ∃ c, r = .ok c ∧ s = .v (.bl (f c)) := by
  cases r with
  | ok c => cases h; exact ⟨c, rfl, rfl⟩
  | ex c => cases h
  | st => cases h
  | ask _ _ => cases h
theorem bindB_ne {r : R Bool} {f : Bool → Bool} (h : r.plain) : (r.bind fun c => okB (f c)).plain := by
  cases r with
  | ok c => trivial
  | ex d => exact h.elim
  | st => trivial
  | ask _ _ => exact h.elim
/-- whether a value is None -/
theorem isS_ok {k : Kx} {G : Hp} {a b : PD} {c : Bool} {v u : V} (h : isS a b = .ok c) (ra : Rep k G a v) (rb : Rep k G b u) : (u = .non ∧ c = decide (v = .non)) ∨ (∃ x y, v = .bl x ∧ u = .bl y ∧ c = decide (x = y)) := by
  unfold isS at h
  split at h <;> first
    | (cases h; exact .inr ⟨_, _, ra.ofBl, rb.ofBl, rfl⟩)
    | (cases h
       refine .inl ⟨rb.ofNon, ?_⟩
       first
         | (rw [ra.ofNon]; rfl)
         | (rw [ra.ofBl]; rfl)
         | (rw [ra.ofInt]; rfl)
         | (rw [ra.ofStr]; rfl)
         | (obtain ⟨x, _, q, _⟩ := ra.ofTup; rw [q]; rfl)
         | (obtain ⟨x, _, q, _⟩ := ra.ofLst; rw [q]; rfl)
         | (simp only [Rep] at ra; obtain ⟨x, q, _⟩ := ra; rw [q]; rfl))
    | cases h

theorem nil_of {k : Kx} {G : Hp} {ds : List PD} {vs : List V} (r : Reps k G ds vs) (h : vs = []) : ds = [] := by
  subst h
  exact List.eq_nil_of_length_eq_zero r.length.symm
theorem all_flat : ∀ ns : List Int, (ns.map V.int).all flatV = true
  | [] => rfl
  | n :: ns => by rw [List.map_cons, List.all_cons, all_flat ns]; rfl
theorem inV_ints (i : Int) : ∀ ns : List Int, inV (.int i) (ns.map V.int) = decide (i ∈ ns)
  | [] => by simp [inV]
  | n :: ns => by
    have ih := inV_ints i ns
    unfold inV at ih ⊢
    rw [List.map_cons, List.any_cons, ih]
    show (n == i || decide (i ∈ ns)) = decide (i ∈ n :: ns)
    rw [Bool.eq_iff_iff]
    simp only [Bool.or_eq_true, beq_iff_eq, decide_eq_true_eq, List.mem_cons]
    constructor
    · rintro (h | h)
      · exact .inl h.symm
      · exact .inr h
    · rintro (h | h)
      · exact .inl h.symm
      · exact .inr h
theorem bOk (k : Kx) (o : B) : OpOk k (rB k.K o) (bSem o) := by
  intro x y
  constructor
  · cases o
    case eq => exact bindB_ne eqS_ne
    case ne => exact bindB_ne eqS_ne
    case is => exact bindB_ne isS_ne
    case isn => exact bindB_ne isS_ne
    case inn => cases x <;> cases y <;> simp only [bSem, okB] <;> first | trivial | exact bindB_ne inS_ne | (split <;> trivial)
    case nin => cases x <;> cases y <;> simp only [bSem, okB] <;> first | trivial | exact bindB_ne inS_ne | (split <;> trivial)
    all_goals (cases x <;> cases y <;> simp only [bSem, okI, okB] <;> first | trivial | (split <;> first | trivial | (split <;> trivial)))
  · intro s e p H v u Q f rx ry q
    have le : Same (part p H) H := part_le
    cases o
    case add =>
      cases x <;> cases y <;> simp only [bSem, okI, reduceCtorEq] at e
      · cases e
        exact .inl ⟨_, _, rx.ofInt, ry.ofInt, q _ _ (Same.refl _) ResOk.flatI⟩
      · split at e <;> cases e
        rename_i z
        exact .inr (.inl ⟨_, _, rx.ofStr, ry.ofStr, z, q _ _ (Same.refl _) ResOk.flatS⟩)
      · split at e <;> cases e
        rename_i z
        obtain ⟨a, vs, rfl, h1, r1⟩ := rx.ofTup
        obtain ⟨b, ws, rfl, h2, r2⟩ := ry.ofTup
        refine .inr (.inr (.inl ⟨a, b, vs, ws, rfl, rfl, sqT_mono le h1, sqT_mono le h2, by rw [r1.length, r2.length]; exact z, fun hx => ?_, fun _ hy => ?_, fun _ _ t n => ?_⟩))
        · have e0 := nil_of r1 hx
          subst e0
          exact q _ _ (Same.refl _) ry
        · have e0 := nil_of r2 hy
          subst e0
          rw [List.append_nil] at q
          exact q _ _ (Same.refl _) rx
        · exact q _ _ (same_new n) (ResOk.newT f n (Reps.append r1 r2))
      · split at e <;> cases e
        rename_i z
        obtain ⟨a, vs, rfl, h1, r1⟩ := rx.ofLst
        obtain ⟨b, ws, rfl, h2, r2⟩ := ry.ofLst
        refine .inr (.inr (.inr ⟨a, b, vs, ws, ⟨rfl, rfl⟩, ⟨h1.mono le, h2.mono le⟩, by rw [r1.length, r2.length]; exact z, fun t n => ?_⟩))
        exact q _ _ (same_new n) (ResOk.newL n (Reps.append r1 r2))
    case sub =>
      cases x <;> cases y <;> simp only [bSem, okI, reduceCtorEq] at e
      cases e
      exact ⟨_, _, rx.ofInt, ry.ofInt, q _ _ (Same.refl _) ResOk.flatI⟩
    case mul =>
      cases x <;> cases y <;> simp only [bSem, okI, reduceCtorEq] at e
      · split at e <;> cases e
        rename_i z
        exact .inl ⟨_, _, rx.ofInt, ry.ofInt, z, q _ _ (Same.refl _) ResOk.flatI⟩
      · split at e <;> cases e
        rename_i z
        exact .inr ⟨_, _, rx.ofStr, ry.ofInt, z, q _ _ (Same.refl _) ResOk.flatS⟩
    case fdiv =>
      cases x <;> cases y <;> simp only [bSem, okI, reduceCtorEq] at e
      split at e <;> cases e
      rename_i z
      exact ⟨_, _, rx.ofInt, ry.ofInt, z, q _ _ (Same.refl _) ResOk.flatI⟩
    case mod =>
      cases x <;> cases y <;> simp only [bSem, okI, reduceCtorEq] at e
      split at e <;> cases e
      rename_i z
      exact ⟨_, _, rx.ofInt, ry.ofInt, z, q _ _ (Same.refl _) ResOk.flatI⟩
    case pow =>
      cases x <;> cases y <;> simp only [bSem, okI, reduceCtorEq] at e
      split at e <;> cases e
      rename_i z
      exact ⟨_, _, rx.ofInt, ry.ofInt, z, q _ _ (Same.refl _) ResOk.flatI⟩
    case eq =>
      obtain ⟨c, e', rfl⟩ := bindB e
      obtain ⟨s1, s2, rfl⟩ := eqS_ok e'
      exact ⟨_, _, rx.dpS le s1, ry.dpS le s2, s1, s2, q _ _ (Same.refl _) ResOk.flatB⟩
    case ne =>
      obtain ⟨c, e', rfl⟩ := bindB e
      obtain ⟨s1, s2, rfl⟩ := eqS_ok e'
      exact ⟨_, _, rx.dpS le s1, ry.dpS le s2, s1, s2, q _ _ (Same.refl _) ResOk.flatB⟩
    case lt =>
      cases x <;> cases y <;> simp only [bSem, okB, reduceCtorEq] at e
      · cases e
        exact .inl ⟨_, _, rx.ofInt, ry.ofInt, q _ _ (Same.refl _) ResOk.flatB⟩
      · split at e <;> cases e
        rename_i e1 e2
        obtain ⟨a, vs, rfl, h1, r1⟩ := rx.ofTup
        obtain ⟨b, ws, rfl, h2, r2⟩ := ry.ofTup
        rw [ints?_eq e1] at r1
        rw [ints?_eq e2] at r2
        rw [Reps.ints r1] at h1
        rw [Reps.ints r2] at h2
        exact .inr ⟨_, _, _, _, rfl, rfl, sqT_mono le h1, sqT_mono le h2, q _ _ (Same.refl _) ResOk.flatB⟩
    case le =>
      cases x <;> cases y <;> simp only [bSem, okB, reduceCtorEq] at e
      · cases e
        exact .inl ⟨_, _, rx.ofInt, ry.ofInt, q _ _ (Same.refl _) ResOk.flatB⟩
      · split at e <;> cases e
        rename_i e1 e2
        obtain ⟨a, vs, rfl, h1, r1⟩ := rx.ofTup
        obtain ⟨b, ws, rfl, h2, r2⟩ := ry.ofTup
        rw [ints?_eq e1] at r1
        rw [ints?_eq e2] at r2
        rw [Reps.ints r1] at h1
        rw [Reps.ints r2] at h2
        exact .inr ⟨_, _, _, _, rfl, rfl, sqT_mono le h1, sqT_mono le h2, q _ _ (Same.refl _) ResOk.flatB⟩
    case gt =>
      cases x <;> cases y <;> simp only [bSem, okB, reduceCtorEq] at e
      cases e
      exact ⟨_, _, rx.ofInt, ry.ofInt, q _ _ (Same.refl _) ResOk.flatB⟩
    case ge =>
      cases x <;> cases y <;> simp only [bSem, okB, reduceCtorEq] at e
      · cases e
        exact .inl ⟨_, _, rx.ofInt, ry.ofInt, q _ _ (Same.refl _) ResOk.flatB⟩
      · split at e <;> cases e
        rename_i e1 e2
        obtain ⟨a, vs, rfl, h1, r1⟩ := rx.ofTup
        obtain ⟨b, ws, rfl, h2, r2⟩ := ry.ofTup
        rw [ints?_eq e1] at r1
        rw [ints?_eq e2] at r2
        rw [Reps.ints r1] at h1
        rw [Reps.ints r2] at h2
        exact .inr ⟨_, _, _, _, rfl, rfl, sqT_mono le h1, sqT_mono le h2, q _ _ (Same.refl _) ResOk.flatB⟩
    case inn =>
      by_cases hy : ∃ ys, y = .lst ys
      · obtain ⟨ys, rfl⟩ := hy
        have e : ((inS x ys).bind fun c => okB c) = .ok s := by cases x <;> exact e
        obtain ⟨c, e', rfl⟩ := bindB e
        obtain ⟨s1, s2, rfl⟩ := inS_ok e'
        exact .inl ⟨_, _, rx.dpS le s1, ry.dpS le s2, s1, s2, q _ _ (Same.refl _) ResOk.flatB⟩
      · cases x <;> cases y <;> simp only [bSem, okB, reduceCtorEq] at e <;> first | exact absurd ⟨_, rfl⟩ hy | skip
        · split at e <;> cases e
          rename_i ns en
          obtain ⟨a, vs, rfl, h1, r1⟩ := ry.ofTup
          rw [ints?_eq en] at r1
          rw [Reps.ints r1] at h1
          refine .inr (.inl ⟨a, ns.map V.int, rfl, .inr (sqT_mono le h1), by rw [rx.ofInt]; rfl, all_flat ns, ?_⟩)
          rw [rx.ofInt, inV_ints]
          exact q _ _ (Same.refl _) ResOk.flatB
        · split at e <;> cases e
          exact .inr (.inr ⟨_, _, rx.ofStr, ry.ofStr, q _ _ (Same.refl _) ResOk.flatB⟩)
    case nin =>
      by_cases hy : ∃ ys, y = .lst ys
      · obtain ⟨ys, rfl⟩ := hy
        have e : ((inS x ys).bind fun c => okB (!c)) = .ok s := by cases x <;> exact e
        obtain ⟨c, e', rfl⟩ := bindB e
        obtain ⟨s1, s2, rfl⟩ := inS_ok e'
        exact .inl ⟨_, _, rx.dpS le s1, ry.dpS le s2, s1, s2, q _ _ (Same.refl _) ResOk.flatB⟩
      · cases x <;> cases y <;> simp only [bSem, okB, reduceCtorEq] at e <;> first | exact absurd ⟨_, rfl⟩ hy | skip
        · split at e <;> cases e
          rename_i ns en
          obtain ⟨a, vs, rfl, h1, r1⟩ := ry.ofTup
          rw [ints?_eq en] at r1
          rw [Reps.ints r1] at h1
          refine .inr ⟨a, ns.map V.int, rfl, .inr (sqT_mono le h1), by rw [rx.ofInt]; rfl, all_flat ns, ?_⟩
          rw [rx.ofInt, inV_ints]
          exact q _ _ (Same.refl _) ResOk.flatB
    case is =>
      obtain ⟨c, e', rfl⟩ := bindB e
      rcases isS_ok e' rx ry with ⟨h, rfl⟩ | ⟨a, b, h1, h2, rfl⟩
      · exact .inl ⟨h, q _ _ (Same.refl _) ResOk.flatB⟩
      · exact .inr ⟨_, _, h1, h2, q _ _ (Same.refl _) ResOk.flatB⟩
    case isn =>
      obtain ⟨c, e', rfl⟩ := bindB e
      rcases isS_ok e' rx ry with ⟨h, rfl⟩ | ⟨a, b, h1, h2, rfl⟩
      · exact .inl ⟨h, q _ _ (Same.refl _) ResOk.flatB⟩
      · exact .inr ⟨_, _, h1, h2, q _ _ (Same.refl _) ResOk.flatB⟩
    case idx =>
      cases x <;> cases y <;> simp only [bSem, reduceCtorEq] at e
      · split at e
        · rename_i z
          split at e <;> cases e
          rename_i c hc
          exact .inr (.inr ⟨_, _, c, rx.ofStr, ry.ofInt, z, hc, q _ _ (Same.refl _) ResOk.flatS⟩)
        · cases e
      · split at e <;> cases e
        rename_i d hd
        obtain ⟨a, vs, rfl, h1, r1⟩ := rx.ofTup
        obtain ⟨w, hw, rw'⟩ := r1.atI hd
        exact .inr (.inl ⟨a, vs, _, w, rfl, ry.ofInt, sqT_mono le h1, hw, q _ _ (Same.refl _) rw'⟩)
      · split at e <;> cases e
        rename_i d hd
        obtain ⟨a, vs, rfl, h1, r1⟩ := rx.ofLst
        obtain ⟨w, hw, rw'⟩ := r1.atI hd
        exact .inl ⟨a, vs, _, w, rfl, ry.ofInt, (h1.mono le).sql, hw, q _ _ (Same.refl _) rw'⟩
    case max2 =>
      cases x <;> cases y <;> simp only [bSem, okI, reduceCtorEq] at e
      cases e
      exact ⟨_, _, by rw [rx.ofInt, ry.ofInt], q _ _ (Same.refl _) ResOk.flatI⟩
    case min2 =>
      cases x <;> cases y <;> simp only [bSem, okI, reduceCtorEq] at e
      cases e
      exact ⟨_, _, by rw [rx.ofInt, ry.ofInt], q _ _ (Same.refl _) ResOk.flatI⟩
    case divm =>
      cases x <;> cases y <;> simp only [bSem, okI, reduceCtorEq] at e
      split at e <;> cases e
      rename_i i j z
      refine ⟨i, j, by rw [rx.ofInt, ry.ofInt], z, fun l n => q _ _ (same_new n) (ResOk.newT f n ?_)⟩
      rw [Int.fdiv_eq_ediv_of_nonneg i (by omega), Int.fmod_eq_emod_of_nonneg i (by omega)]
      exact Reps.of_ints [i / j, i % j]
end FS

set_option maxRecDepth 100000
set_option autoImplicit false
set_option maxHeartbeats 1000000
/-! sorted of tuples of numbers, any numbers: of a list, of a set, of a dict's keys. -/
namespace FS
open PySem PySem.Spec PyProof.Rows L2
section
variable {prog : Program} {w : World} {A : Around} {E : Value → Shared → Prop} {s : Shared}
theorem lex_kat {fin : Bool} : ∀ {xs ys : List Value} {ns ms : List Int} {i : Nat}, IntsAre xs ns → IntsAre ys ms → fin = decide (xs.length < ys.length) →
    PySem.W.KatLex prog w A true fin (fun r s' => s' = s ∧ r = HT.lexLt ns ms) (xs.zip ys) i s := by
  intro xs
  induction xs with
  | nil =>
    intro ys ns ms i hx hy hf
    cases hx
    rw [List.zip_nil_left]
    refine PySem.W.kat_nil ⟨rfl, ?_⟩
    cases hy with
    | nil => rw [hf]; rfl
    | cons n t r => rw [hf]; rfl
  | cons x xs ih =>
    intro ys ns ms i hx hy hf
    cases hx with
    | cons n t hx =>
      cases hy with
      | nil =>
        rw [List.zip_nil_right]
        exact PySem.W.kat_nil ⟨rfl, by rw [hf]; rfl⟩
      | cons m u hy =>
        rename_i ns ys ms
        rw [List.zip_cons_cons]
        refine PySem.W.kat_cons (SeqAt.EqAt.int_int n t m u prog w _ _ ?_)
        refine PySem.W.kat_go (fun e => ?_) (fun e => ?_)
        · have en : n = m := by simpa using e
          have q : HT.lexLt (n :: ns) (m :: ms) = HT.lexLt ns ms := by rw [HT.lexLt_cons, if_pos en]
          rw [q]
          refine PySem.W.kat_yes (ih hx hy ?_)
          rw [hf]
          congr 1
          simp
        · have en : ¬ n = m := by simpa using e
          have q : HT.lexLt (n :: ns) (m :: ms) = decide (n < m) := by rw [HT.lexLt_cons, if_neg en]
          rw [q]
          refine PySem.W.kat_no ?_
          by_cases hi : i = 0
          · subst hi
            exact oneLt_int ⟨rfl, rfl⟩
          · have b0 : (true && i == 0) = false := by simp [hi]
            rw [b0]
            refine PySem.W.kat_one _ _ (PyProof.Rows.lt_int ?_)
            exact (show s = s ∧ decide (n < m) = decide (n < m) from ⟨rfl, rfl⟩)
theorem tups_cmp {vs : List Value} {k : Value → List Int} (hp : ∀ v ∈ vs, TS.TupInts s.heap v (k v)) : SrtO.Cmp prog w A s (tuples' true) (fun p => p.1 ∈ vs) (SrtO.lt2 fun v u => HT.lexLt (k v) (k u)) := by
  intro p q hm hm'
  have h1 := hp _ hm
  have h2 := hp _ hm'
  show wpAny (model prog w) A (keyLt' (tuples' true) p.1 q.1) (fun r s' => s' = s ∧ r = HT.lexLt (k p.1) (k q.1)) (fun _ _ => False) s
  obtain ⟨a, xs, ea, ⟨o, ho, hc, n, hd⟩, ix⟩ := h1
  obtain ⟨b, ys, eb, ⟨o', ho', hc', n', hd'⟩, iy⟩ := h2
  rw [ea, eb]
  rw [ea] at ix
  rw [eb] at iy
  refine PySem.W.kat_lt ho hd ho' hd' (lex_kat ix iy ?_)
  simp
theorem firsts_n {h : Heap} {k : Value → List Int} : ∀ {vs : List Value}, (∀ v ∈ vs, TS.TupInts h v (k v) ∧ k v ≠ []) → ∃ fs, PySem.W.KatTups h vs fs ∧ fs.length = vs.length ∧ ∀ f ∈ fs, ∃ (i : Int) (t : Tok), f = .int i t
  | [], _ => ⟨[], PySem.W.KatTups.nil, rfl, fun _ h => by cases h⟩
  | v :: vs, hp => by
    obtain ⟨fs, h1, h2, h3⟩ := firsts_n (vs := vs) fun u hu => hp u (List.mem_cons_of_mem _ hu)
    obtain ⟨⟨a, xs, ea, ⟨o, ho, hc, n, hd⟩, ix⟩, ne⟩ := hp v (List.mem_cons_self ..)
    subst ea
    cases e : xs.toList with
    | nil =>
      rw [e] at ix
      generalize k (.ref a) = l at ix ne
      cases ix
      exact absurd rfl ne
    | cons f r =>
      rw [e] at ix
      generalize k (.ref a) = l at ix ne
      cases ix with
      | cons i t ix =>
        refine ⟨.int i t :: fs, PySem.W.KatTups.cons ho hc hd ?_ h1, by simp [h2], fun g hg => ?_⟩
        · have : xs = (Value.int i t :: r).toArray := by rw [← e]
          rw [this]; rfl
        · rcases List.mem_cons.mp hg with z | z
          · exact ⟨i, t, z⟩
          · exact h3 g z
theorem tups_sortable {a : Addr} {vs : List Value} {k : Value → List Int} (h0 : 0 < vs.length) (hp : ∀ v ∈ vs, TS.TupInts s.heap v (k v) ∧ k v ≠ []) (ha : ∀ o, s.heap.get? a = some o → o.cls ≠ .type "tuple") : SrtO.SortableO prog w A s a vs fun v u => HT.lexLt (k v) (k u) := by
  intro h' keep
  have hp' : ∀ v ∈ vs, TS.TupInts h' v (k v) ∧ k v ≠ [] := fun v hm => ⟨(hp v hm).1.keeps fun b o e c => keep b o (fun z => by subst z; exact ha o e c) e, (hp v hm).2⟩
  obtain ⟨fs, h1, h2, h3⟩ := firsts_n hp'
  refine ⟨tuples' true, fun Q E hq => ?_, tups_cmp (s := { s with heap := h' }) fun v hm => (hp' v hm).1⟩
  refine PySem.W.kat_kind (T := .type "int") h1 (by omega) (fun f hm => ?_) (by rfl) ?_
  · obtain ⟨x, t, rfl⟩ := h3 f hm
    exact PySem.W.Looks.now
  · have e : (Value.type "int" != Value.type "tuple") = true := by decide +kernel
    rw [e]
    exact hq
end
/-- which numbers a tuple holds, whatever else it is -/
noncomputable def numsAt (h : Heap) (v : Value) : List Int := open Classical in if e : ∃ ns, TS.TupInts h v ns then e.choose else []
theorem tupInts_inj {h : Heap} {v : Value} {ns ms : List Int} (a : TS.TupInts h v ns) (b : TS.TupInts h v ms) : ns = ms := by rw [← a.ints, ← b.ints]
theorem numsAt_eq {h : Heap} {v : Value} {ns : List Int} (a : TS.TupInts h v ns) : numsAt h v = ns := by
  unfold numsAt
  have e : ∃ ns, TS.TupInts h v ns := ⟨ns, a⟩
  rw [dif_pos e]
  exact tupInts_inj e.choose_spec a
theorem perm_map_ex {α β : Type} {f : α → β} : ∀ {l : List β} {m : List α}, l.Perm (m.map f) → ∃ n : List α, n.Perm m ∧ l = n.map f := by
  intro l m h
  generalize e : m.map f = k at h
  induction h generalizing m with
  | nil => exact ⟨[], by rw [List.map_eq_nil_iff.mp e], rfl⟩
  | cons x p ih =>
    cases m with
    | nil => simp at e
    | cons a m =>
      rw [List.map_cons] at e
      obtain ⟨e1, e2⟩ := List.cons.inj e
      obtain ⟨n, h1, h2⟩ := ih e2
      exact ⟨a :: n, h1.cons a, by rw [List.map_cons, e1, h2]⟩
  | swap x y l =>
    cases m with
    | nil => simp at e
    | cons a m =>
      cases m with
      | nil => simp at e
      | cons b m =>
        rw [List.map_cons, List.map_cons] at e
        obtain ⟨e1, e2⟩ := List.cons.inj e
        obtain ⟨e3, e4⟩ := List.cons.inj e2
        exact ⟨b :: a :: m, List.Perm.swap _ _ _, by rw [List.map_cons, List.map_cons, e1, e3, e4]⟩
  | trans p1 p2 ih1 ih2 =>
    obtain ⟨n2, h1, h2⟩ := ih2 e
    obtain ⟨n1, h3, h4⟩ := ih1 h2.symm
    exact ⟨n1, h3.trans h1, h4⟩
/-- sorted(xs) of a list of tuples of numbers -/
def rSortN (K : PySem.W.Frag) : List V → Hp → VK → Prop := fun vs H Q => ∃ (a : Addr) (L : List (Addr × List Int)), vs = [V.ref a] ∧ SqL K H a (L.map fun q => V.ref q.1) ∧ (∀ q ∈ L, SqT K H q.1 (q.2.map V.int) ∧ q.2 ≠ []) ∧
  ∀ (L' : List (Addr × List Int)) p, L'.Perm L → L'.Pairwise (fun x y => HT.lexLt y.2 x.2 = false) → H p = none → Q (.ref p) (upd H p (.lst (L'.map fun q => V.ref q.1)))
section
variable {X : Cx}
theorem cr_sortN : CallR X (.builtin "sorted") (rSortN X.K) := by
  intro pins s σ H vs us Q I r h
  obtain ⟨a, L, rfl, hs, hL, q⟩ := h
  obtain ⟨its, rv, hl, hz⟩ := I.list hs
  rw [Vals.ref1 r]
  have ei : its = L.map fun q => Value.ref q.1 := refs_of_vals rv
  have hzi : its.length ≤ sizeLine := by rw [← rv.length]; exact hz
  have num : ∀ q ∈ L, numsAt s.heap (.ref q.1) = q.2 := fun q hq => numsAt_eq (tupI_raw I (hL q hq).1)
  have hin : ∀ v ∈ its, TS.TupInts s.heap v (numsAt s.heap v) ∧ numsAt s.heap v ≠ [] := fun v hv => by
    rw [ei] at hv
    obtain ⟨q, hq, rfl⟩ := List.mem_map.mp hv
    rw [num q hq]
    exact ⟨tupI_raw I (hL q hq).1, (hL q hq).2⟩
  refine SrtO.sorted_ord (NtL.swo_lexL (numsAt s.heap)) hl.isList hzi (fun h2 h₁ b hb kk => ?_) fun out h1 h2 => ?_
  · refine tups_sortable (s := { s with heap := h₁ }) (by omega) (fun v hm => ⟨(hin v hm).1.keeps fun c o e _ => (kk c o e).2, (hin v hm).2⟩) fun o e => ?_
    have e' : some o = some (seqObj "list" its.toArray 0) := e.symm.trans hb
    cases e'
    intro c
    exact absurd (Value.type.inj c) (by decide)
  · obtain ⟨ep, he'⟩ := PyProof.Rows.sortedAll_at s.heap its out.toArray
    obtain ⟨L1, pL, eo⟩ : ∃ L1 : List (Addr × List Int), L1.Perm L ∧ out = L1.map fun q => Value.ref q.1 := by
      have p := h2.perm
      rw [ei] at p
      exact perm_map_ex p
    have hlen : (L1.map fun q => V.ref q.1).length ≤ sizeLine := by
      rw [List.length_map, pL.length_eq]
      rw [List.length_map] at hz
      exact hz
    have pw : L1.Pairwise (fun x y => HT.lexLt y.2 x.2 = false) := by
      rw [eo] at h1
      refine (List.pairwise_map.mp h1).imp_of_mem fun {x y} hx hy z => ?_
      have z : HT.lexLt (numsAt s.heap (.ref y.1)) (numsAt s.heap (.ref x.1)) = false := z
      rw [num x (pL.mem_iff.mp hx), num y (pL.mem_iff.mp hy)] at z
      exact z
    exact ⟨.ref _, upd H (s.heap.objs.size + 1) (.lst (L1.map fun q => V.ref q.1)), I.laid (t' := s.toks) (fun _ _ => PyProof.Rows.sortedAll_old) (Nat.le_succ _) ⟨hlen, out, ep, by rw [eo]; exact vals_of_refs L1, he'⟩, rfl, q _ _ pL pw (I.hok.fresh (Nat.le_succ _))⟩
end
/-- sorted(c) of a set of tuples of numbers -/
def rSortSN (K : PySem.W.Frag) (P : Program) (w : World) : List V → Hp → VK → Prop := fun vs H Q => ∃ (a : Addr) (L : List (Addr × List Int)), vs = [V.ref a] ∧ H a = some (SetTO P w a L) ∧ (∀ p ∈ L, SqT K H p.1 (p.2.map V.int) ∧ p.2 ≠ []) ∧
  ∀ (L' : List (Addr × List Int)) (p : Addr), L'.Perm L → (L'.map (·.2)).Nodup → L'.Pairwise (fun x y => HT.lexLt y.2 x.2 = false) → H p = none → Q (.ref p) (upd H p (.lst (L'.map fun q => V.ref q.1)))
section
variable {prog : Program} {w : World} {A : Around} {E : Value → Shared → Prop} {s : Shared}
/-- the sort behind the collecting -/
theorem sort_list_n {a : Addr} {vs : List Value} {n : Nat} {k : Value → List Int} {R : Value → Shared → Prop} (ho : s.heap.get? a = some (seqObj "list" vs.toArray n)) (hz : vs.length ≤ sizeLine) (hp : ∀ v ∈ vs, TS.TupInts s.heap v (k v) ∧ k v ≠ [])
    (h : ∀ out : List Value, out.Pairwise (fun u v => HT.lexLt (k v) (k u) = false) → out.Perm vs → R .none { s with heap := sortedHeap s.heap a vs out.toArray }) : wpAny (model prog w) A (call (.builtin "list.sort") [.ref a]) R E s := by
  refine wpAny_call_entry slot_list_sort ⟨_, ho, rfl⟩ entry_list_sort (SrtO.list_sort_ord (NtL.swo_lexL k) ho hz (fun h2 => tups_sortable (by omega) hp fun o e c => ?_) fun out h1 h2 => ⟨_, rfl, h out h1 h2.perm⟩) (args_list_sort _)
  rw [ho] at e
  cases e
  exact absurd (Value.type.inj c) (by decide)
end
theorem nodup_fst {α β : Type} {l : List α} {f : α → β} (h : (l.map f).Nodup) : l.Nodup := by
  have h2 := List.pairwise_map.mp h
  exact h2.imp fun {x y} z e => z (by rw [e])
section
variable {X : Cx}
theorem cr_sortSN (hc : X.calm = true) : CallR X (.builtin "sorted") (rSortSN X.K X.prog X.w) := by
  intro pins s σ H vs us Q I r h
  obtain ⟨a, L, rfl, ha, hk, q⟩ := h
  have R0 : SetT0 X.prog X.w s.heap a L := (I.hok a _ ha).1
  obtain ⟨es, ep, t, R⟩ := R0.full fun p hp => I.isT (hk p hp).1
  rw [Vals.ref1 r]
  obtain ⟨o, ho, hex, hd⟩ := R.ob
  have hsz := R.size
  have hfew := R.few
  refine Calls.call_function_entry kind_sorted plain_sorted entry_sorted (args_sorted1 _) ?_
  unfold Builtin.«sorted»
  refine wpAny_bind (m := checkCount "sorted" 1 1 _) (wpAny_pure ?_)
  refine wpAny_bind (collect_set (A := X.A.in1) (I.ok.hd hc) ⟨o, ho, hex.1, hd⟩ R.fits (by unfold scanBound; omega) R.tab.ris R.led fun s1 vs k1 hz g1 o1 pm => ?_)
  have rows : es.toList.map (·.2) = L.map fun q => Value.ref q.1 := by
    rw [R.rows]
    unfold rowsOf
    rw [List.map_map] <;> rfl
  rw [rows] at pm
  have hvl : vs.length ≤ sizeLine := by rw [pm.length_eq, List.length_map, sizeLine_eq]; omega
  refine wpAny_bind (wpAny_newList ?_ hvl)
  have hoL : (s1.heap.push (seqObj "list" vs.toArray 0)).get? s1.heap.objs.size = some (seqObj "list" vs.toArray 0) := Heap.get?_push_size _ rfl
  have keep : ∀ b u, s.heap.get? b = some u → (s1.heap.push (seqObj "list" vs.toArray 0)).get? b = some u := fun b u e => Heap.get?_push_of_some _ (k1 b u e)
  -- addresses and numbers belong together
  have one : ∀ q ∈ L, ∀ r ∈ L, q.1 = r.1 → q = r := fun q hq r hr e => by
    have a1 := R.tup q hq
    have a2 := R.tup r hr
    rw [e] at a1
    exact Prod.ext e (a1.inj a2)
  have tups : ∀ q ∈ L, TS.TupInts (s1.heap.push (seqObj "list" vs.toArray 0)) (.ref q.1) q.2 := fun q hq => tupInts_of (P := X.prog) (w := X.w) (isT_keep (R.tup q hq) keep)
  have nums : ∀ q ∈ L, numsAt (s1.heap.push (seqObj "list" vs.toArray 0)) (.ref q.1) = q.2 := fun q hq => numsAt_eq (tups q hq)
  have from_L : ∀ v ∈ vs, ∃ q ∈ L, v = Value.ref q.1 := fun v hv => by
    obtain ⟨q, hq, e⟩ := List.mem_map.mp (pm.mem_iff.mp hv)
    exact ⟨q, hq, e.symm⟩
  refine wpAny_bind (wpAny_holding (sort_list_n (s := { s1 with heap := s1.heap.push (seqObj "list" vs.toArray 0) }) (k := numsAt (s1.heap.push (seqObj "list" vs.toArray 0))) hoL hvl (fun v hv => ?_) fun out a1 a2 => ?_))
  · obtain ⟨q, hq, rfl⟩ := from_L v hv
    rw [nums q hq]
    exact ⟨tups q hq, (hk q hq).2⟩
  -- the rows in the found order
  have rows_of : ∀ l : List Value, (∀ v ∈ l, ∃ q ∈ L, v = Value.ref q.1) → ∃ L1 : List (Addr × List Int), l = L1.map (fun q => Value.ref q.1) ∧ ∀ q ∈ L1, q ∈ L := by
    intro l
    induction l with
    | nil => intro _; exact ⟨[], rfl, fun q hq => by cases hq⟩
    | cons v l ih =>
      intro hv
      obtain ⟨q, hq, e⟩ := hv v (List.mem_cons_self ..)
      obtain ⟨L1, e1, m1⟩ := ih fun u hu => hv u (List.mem_cons_of_mem _ hu)
      refine ⟨q :: L1, by rw [e1, e]; rfl, fun x hx => ?_⟩
      rcases List.mem_cons.mp hx with z | z
      · rw [z]; exact hq
      · exact m1 x z
  obtain ⟨L1, eo, mL⟩ := rows_of out fun v hv => from_L v (a2.mem_iff.mp hv)
  have ndL : L.Nodup := nodup_fst R.nd
  have inj : ∀ q ∈ L, ∀ r ∈ L, Value.ref q.1 = Value.ref r.1 → q = r := fun q hq r hr e => one q hq r hr (Value.ref.inj e)
  have nref : (L.map fun q => Value.ref q.1).Nodup := List.pairwise_map.mpr (ndL.imp_of_mem fun {q r} hq hr hne e => hne (inj q hq r hr e))
  have pL : L1.Perm L := by
    have p1 : (L1.map fun q => Value.ref q.1).Perm (L.map fun q => Value.ref q.1) := by rw [← eo]; exact a2.trans pm
    refine (List.perm_ext_iff_of_nodup (nodup_fst (p1.nodup_iff.mpr nref)) ndL).mpr fun q => ⟨mL q, fun hq => ?_⟩
    obtain ⟨x, hx, e⟩ := List.mem_map.mp (p1.mem_iff.mpr (List.mem_map.mpr ⟨q, hq, rfl⟩))
    rw [← inj x (mL x hx) q hq e]
    exact hx
  have pw : L1.Pairwise (fun x y => HT.lexLt y.2 x.2 = false) := by
    rw [eo] at a1
    refine (List.pairwise_map.mp a1).imp_of_mem fun {x y} hx hy z => ?_
    rw [nums x (mL x hx), nums y (mL y hy)] at z
    exact z
  obtain ⟨c, hcell⟩ := sortedHeap_at (vs := vs) (out := out.toArray) hoL
  have hn : H s1.heap.objs.size = none := I.hok.fresh hz
  have hlen : (L1.map fun q => V.ref q.1).length ≤ sizeLine := by rw [List.length_map, pL.length_eq, sizeLine_eq]; omega
  have hv : Vals (L1.map fun q => V.ref q.1) out := by rw [eo]; exact vals_of_refs L1
  have kept : ∀ b u, s.heap.get? b = some u → (sortedHeap (s1.heap.push (seqObj "list" vs.toArray 0)) s1.heap.objs.size vs out.toArray).get? b = some u := fun b u e => by
    have hlt := Heap.lt_size (k1 b u e)
    rw [sortedHeap_old (Nat.ne_of_lt hlt) (by rw [size_push']; exact Nat.lt_succ_of_lt hlt)]
    exact keep b u e
  have J : Inv X pins σ (upd H s1.heap.objs.size (.lst (L1.map fun q => V.ref q.1))) { s with heap := sortedHeap (s1.heap.push (seqObj "list" vs.toArray 0)) s1.heap.objs.size vs out.toArray, gens := s1.gens, drawn := s1.drawn, toks := s1.toks } :=
    I.call (ch := []) (Un.laid kept hz hn) (I.hok.laid kept hz ⟨hlen, out, c, hv, hcell⟩) (by rw [g1]; exact I.bare) (fun _ z => nomatch z)
  refine wpAny_pure ⟨_, rfl, .ref s1.heap.objs.size, _, ?_, rfl, q L1 _ pL ((pL.map (·.2)).nodup_iff.mpr R.nd) pw hn⟩
  have e : ({ s1 with heap := sortedHeap (s1.heap.push (seqObj "list" vs.toArray 0)) s1.heap.objs.size vs out.toArray } : Shared) = { s with heap := sortedHeap (s1.heap.push (seqObj "list" vs.toArray 0)) s1.heap.objs.size vs out.toArray, gens := s1.gens, drawn := s1.drawn, toks := s1.toks } := by
    cases s1
    cases s
    cases o1
    rfl
  rw [e]
  exact J
end
/-- sorted(d) of a dict whose keys are tuples of numbers -/
def rSortDN : List V → Hp → VK → Prop := fun vs H Q => ∃ (a : Addr) (kvs : List (List Key × V)) (Ls : List (List Int)), vs = [V.ref a] ∧ H a = some (.dT kvs) ∧ kvs.map (·.1) = Ls.map (fun ns => ns.map Sum.inl) ∧ (∀ ns ∈ Ls, ns ≠ []) ∧
  ∀ (L' : List (Addr × List Int)) (p : Addr), (L'.map (·.2)).Perm Ls → (∀ q ∈ L', H q.1 = some (.tup (q.2.map V.int))) → L'.Pairwise (fun x y => HT.lexLt y.2 x.2 = false) → H p = none → Q (.ref p) (upd H p (.lst (L'.map fun q => V.ref q.1)))
theorem pair_rows {H : Hp} : ∀ {kvs : List (List Key × V)} {xs : List (List Key × Addr × Value)} {Ls : List (List Int)}, Paired (fun (p : List Key × V) (q : List Key × Addr × Value) => p.1 = q.1 ∧ H q.2.1 = some (.tup (p.1.map kV)) ∧ RelV p.2 q.2.2) kvs xs →
    kvs.map (·.1) = Ls.map (fun ns => ns.map Sum.inl) → ∃ L : List (Addr × List Int), L.map (·.2) = Ls ∧ (xs.map fun x => Value.ref x.2.1) = (L.map fun q => Value.ref q.1) ∧ ∀ q ∈ L, H q.1 = some (.tup (q.2.map V.int)) := by
  intro kvs xs Ls r
  induction r generalizing Ls with
  | nil =>
    intro e
    have : Ls = [] := by simpa using e.symm
    subst this
    exact ⟨[], rfl, rfl, fun q hq => by cases hq⟩
  | cons h t ih =>
    rename_i p q l1 l2
    intro e
    cases Ls with
    | nil => simp at e
    | cons ns Ls =>
      rw [List.map_cons, List.map_cons] at e
      obtain ⟨e1, e2⟩ := List.cons.inj e
      obtain ⟨L, a1, a2, a3⟩ := ih e2
      obtain ⟨h1, h2, h3⟩ := h
      refine ⟨(q.2.1, ns) :: L, by rw [List.map_cons, a1], by rw [List.map_cons, List.map_cons, a2], fun x hx => ?_⟩
      rcases List.mem_cons.mp hx with z | z
      · rw [z]
        have : p.1.map kV = ns.map V.int := by rw [e1, List.map_map]; rfl
        rw [← this]; exact h2
      · exact a3 x z
section
variable {X : Cx}
theorem tupInts_of_H {pins : List (Addr × Obj)} {σ : L2.St} {H : Hp} {s : Shared} (I : Inv X pins σ H s) {t : Addr} {ns : List Int} (h : H t = some (.tup (ns.map V.int))) : TS.TupInts s.heap (.ref t) ns := tupI_raw I (.inl (.inl h))
theorem cr_sortDN (hc : X.calm = true) : CallR X (.builtin "sorted") rSortDN := by
  intro pins s σ H vs us Q I r h
  obtain ⟨a, kvs, Ls, rfl, ha, hks, hne, q⟩ := h
  rw [Vals.ref1 r]
  obtain ⟨z, hs, ks, pr, o, es, ep, ho, hx, hdt, he, hnd⟩ := (show ObjOk X.prog X.w H s.heap a (.dT kvs) from I.hok a _ ha)
  obtain ⟨L, eL, eR, hL⟩ := pair_rows pr hks
  have l1 : es.size = ks.length := size_of_entries he
  have l2 : kvs.length = ks.length := Paired.length pr
  refine Calls.call_function_entry kind_sorted plain_sorted entry_sorted (args_sorted1 _) ?_
  unfold Builtin.«sorted»
  refine wpAny_bind (m := checkCount "sorted" 1 1 _) (wpAny_pure ?_)
  refine wpAny_bind (PySem.W.kdu_collect (A := X.A.in1) (kdl_raw hs hx hdt) (I.ok.hd hc) ho (by omega) fun h1 tk acc k1 it => ?_)
  have eacc : acc.toList = L.map fun q => Value.ref q.1 := by
    rw [← eR]
    have hl : acc.toList.length = ks.length := by rw [Array.length_toList, it.1]; exact l1
    apply List.ext_getElem?
    intro j
    rw [List.getElem?_map]
    cases hj : acc.toList[j]? with
    | none =>
      have h1 := List.getElem?_eq_none_iff.mp hj
      rw [List.getElem?_eq_none (by omega)]
      rfl
    | some v =>
      obtain ⟨en, hen, hv⟩ := it.2 j v (by rw [← Array.getElem?_toList]; exact hj)
      have qe := entry_at he j
      rw [hen] at qe
      cases hb : ks[j]? with
      | none =>
        rw [hb] at qe
        exact nomatch (show some en = none from qe)
      | some b =>
        rw [hb] at qe
        have e2 : en = entryOfKey (tupleKind (mixKind X.prog X.w)) b := Option.some.inj qe
        rw [hv, e2]
        rfl
  generalize acc.toList = vs at eacc
  have hvl : vs.length ≤ sizeLine := by
    have : L.length = Ls.length := by rw [← eL, List.length_map]
    have h3 : kvs.length = Ls.length := by
      have := congrArg List.length hks
      rwa [List.length_map, List.length_map] at this
    rw [eacc, List.length_map]
    omega
  refine wpAny_bind (wpAny_newList ?_ hvl)
  have hoL : (h1.push (seqObj "list" vs.toArray 0)).get? h1.objs.size = some (seqObj "list" vs.toArray 0) := Heap.get?_push_size _ rfl
  have keep : ∀ b u, s.heap.get? b = some u → (h1.push (seqObj "list" vs.toArray 0)).get? b = some u := fun b u e => Heap.get?_push_of_some _ (k1 b u e)
  have tups : ∀ q ∈ L, TS.TupInts (h1.push (seqObj "list" vs.toArray 0)) (.ref q.1) q.2 := fun q hq => (tupInts_of_H I (hL q hq)).keeps fun b o e _ => keep b o e
  have nums : ∀ q ∈ L, numsAt (h1.push (seqObj "list" vs.toArray 0)) (.ref q.1) = q.2 := fun q hq => numsAt_eq (tups q hq)
  have neL : ∀ q ∈ L, q.2 ≠ [] := fun q hq => hne _ (by rw [← eL]; exact List.mem_map.mpr ⟨q, hq, rfl⟩)
  have from_L : ∀ v ∈ vs, ∃ q ∈ L, v = Value.ref q.1 := fun v hv => by
    rw [eacc] at hv
    obtain ⟨q, hq, e⟩ := List.mem_map.mp hv
    exact ⟨q, hq, e.symm⟩
  show wpAny _ _ _ _ _ { s with heap := h1.push (seqObj "list" vs.toArray 0), toks := tk }
  refine wpAny_bind (wpAny_holding (sort_list_n (s := { s with heap := h1.push (seqObj "list" vs.toArray 0), toks := tk }) (k := numsAt (h1.push (seqObj "list" vs.toArray 0))) hoL hvl (fun v hv => ?_) fun out a1 a2 => ?_))
  · obtain ⟨q, hq, rfl⟩ := from_L v hv
    rw [nums q hq]
    exact ⟨tups q hq, neL q hq⟩
  obtain ⟨L1, pL, eo⟩ : ∃ L1 : List (Addr × List Int), L1.Perm L ∧ out = L1.map fun q => Value.ref q.1 := by
    rw [eacc] at a2
    exact perm_map_ex a2
  have pw : L1.Pairwise (fun x y => HT.lexLt y.2 x.2 = false) := by
    rw [eo] at a1
    refine (List.pairwise_map.mp a1).imp_of_mem fun {x y} hx hy z => ?_
    rw [nums x (pL.mem_iff.mp hx), nums y (pL.mem_iff.mp hy)] at z
    exact z
  obtain ⟨c, hcell⟩ := sortedHeap_at (vs := vs) (out := out.toArray) hoL
  have I1 : Inv X pins σ H { s with heap := h1, toks := tk } := I.kept k1
  have hlen : (L1.map fun q => V.ref q.1).length ≤ sizeLine := by
    have e1 : vs.length = L.length := by rw [eacc, List.length_map]
    rw [List.length_map, pL.length_eq]
    omega
  have hv : Vals (L1.map fun q => V.ref q.1) out := by rw [eo]; exact vals_of_refs L1
  refine wpAny_pure ⟨_, rfl, .ref h1.objs.size, upd H h1.objs.size (.lst (L1.map fun q => V.ref q.1)), I1.laid (t' := tk) (fun b u e => ?_) (Nat.le_refl _) ⟨hlen, out, c, hv, hcell⟩, rfl, q L1 _ ?_ (fun x hx => hL x (pL.mem_iff.mp hx)) pw (I1.hok.fresh (Nat.le_refl _))⟩
  · have hlt := Heap.lt_size e
    rw [sortedHeap_old (Nat.ne_of_lt hlt) (by rw [size_push']; exact Nat.lt_succ_of_lt hlt)]
    exact Heap.get?_push_of_some _ e
  · rw [← eL]; exact pL.map (·.2)
end
end FS

set_option maxRecDepth 100000
set_option autoImplicit false
set_option maxHeartbeats 1000000
/-! Sorting: there is just one rising rearrangement. -/
namespace FS
open PySem PySem.Spec L2
theorem sorted_uniq {α : Type} (R : α → α → Prop) (anti : ∀ a b, R a b → R b a → a = b) : ∀ {l m : List α}, l.Perm m → l.Pairwise R → m.Pairwise R → l = m
  | [], m, h, _, _ => (List.Perm.eq_nil h.symm).symm
  | x :: l, [], h, _, _ => absurd h.length_eq (by simp)
  | x :: l, y :: m, h, h1, h2 => by
    obtain ⟨a1, a2⟩ := List.pairwise_cons.mp h1
    obtain ⟨b1, b2⟩ := List.pairwise_cons.mp h2
    have e : x = y := by
      rcases List.mem_cons.mp (h.mem_iff.mp (List.mem_cons_self ..)) with e | hx
      · exact e
      rcases List.mem_cons.mp (h.mem_iff.mpr (List.mem_cons_self ..)) with e | hy
      · exact e.symm
      exact anti x y (a1 y hy) (b1 x hx)
    subst e
    rw [sorted_uniq R anti h.cons_inv a2 b2]
theorem lex_tri : ∀ {a b : List Int}, HT.lexLt a b = false → HT.lexLt b a = false → a = b
  | [], [], _, _ => rfl
  | [], _ :: _, h, _ => by rw [HT.lexLt_nil_cons] at h; cases h
  | _ :: _, [], _, h => by rw [HT.lexLt_nil_cons] at h; cases h
  | x :: a, y :: b, h1, h2 => by
    rw [HT.lexLt_cons] at h1 h2
    by_cases e : x = y
    · subst e
      rw [if_pos rfl] at h1 h2
      rw [lex_tri h1 h2]
    · rw [if_neg e] at h1
      rw [if_neg (Ne.symm e)] at h2
      have := of_decide_eq_false h1
      have := of_decide_eq_false h2
      omega
/-- not above -/
abbrev lexLe (a b : List Int) : Prop := HT.lexLt b a = false
theorem lexLe_trans {a b c : List Int} (h1 : lexLe a b) (h2 : lexLe b c) : lexLe a c := NtL.lex_tr _ _ _ h1 h2
theorem lexLe_of_lt {a b : List Int} (h : HT.lexLt a b = true) : lexLe a b := NtL.lex_asym _ _ h
theorem lexIns_perm (x : List Int) : ∀ ys : List (List Int), (lexIns x ys).Perm (x :: ys)
  | [] => List.Perm.refl _
  | y :: ys => by
    rw [lexIns]
    split
    · exact ((lexIns_perm x ys).cons y).trans (List.Perm.swap ..)
    · exact List.Perm.refl _
theorem lexSort_perm : ∀ xs : List (List Int), (lexSort xs).Perm xs
  | [] => List.Perm.refl _
  | x :: xs => by rw [lexSort]; exact (lexIns_perm x _).trans ((lexSort_perm xs).cons x)
theorem lexIns_sorted (x : List Int) : ∀ {ys : List (List Int)}, ys.Pairwise lexLe → (lexIns x ys).Pairwise lexLe
  | [], _ => by rw [lexIns]; exact List.pairwise_singleton ..
  | y :: ys, h => by
    obtain ⟨h1, h2⟩ := List.pairwise_cons.mp h
    rw [lexIns]
    split
    · rename_i c
      refine List.pairwise_cons.mpr ⟨fun z hz => ?_, lexIns_sorted x h2⟩
      rcases List.mem_cons.mp ((lexIns_perm x ys).mem_iff.mp hz) with e | hz
      · rw [e]; exact lexLe_of_lt c
      · exact h1 z hz
    · rename_i c
      have c : lexLe x y := by simpa using c
      refine List.pairwise_cons.mpr ⟨fun z hz => ?_, h⟩
      rcases List.mem_cons.mp hz with e | hz
      · rw [e]; exact c
      · exact lexLe_trans c (h1 z hz)
theorem lexSort_sorted : ∀ xs : List (List Int), (lexSort xs).Pairwise lexLe
  | [] => List.Pairwise.nil
  | x :: xs => by rw [lexSort]; exact lexIns_sorted x (lexSort_sorted xs)
theorem lexSort_eq {l xs : List (List Int)} (h : l.Perm xs) (hs : l.Pairwise lexLe) : l = lexSort xs :=
  sorted_uniq lexLe (fun a b h1 h2 => lex_tri h2 h1) (h.trans (lexSort_perm xs).symm) hs (lexSort_sorted xs)
theorem intIns_perm (x : Int) : ∀ ys : List Int, (intIns x ys).Perm (x :: ys)
  | [] => List.Perm.refl _
  | y :: ys => by
    rw [intIns]
    split
    · exact ((intIns_perm x ys).cons y).trans (List.Perm.swap ..)
    · exact List.Perm.refl _
theorem intSort_perm : ∀ xs : List Int, (intSort xs).Perm xs
  | [] => List.Perm.refl _
  | x :: xs => by rw [intSort]; exact (intIns_perm x _).trans ((intSort_perm xs).cons x)
theorem intIns_sorted (x : Int) : ∀ {ys : List Int}, ys.Pairwise (· ≤ ·) → (intIns x ys).Pairwise (· ≤ ·)
  | [], _ => by rw [intIns]; exact List.pairwise_singleton ..
  | y :: ys, h => by
    obtain ⟨h1, h2⟩ := List.pairwise_cons.mp h
    rw [intIns]
    split
    · rename_i c
      refine List.pairwise_cons.mpr ⟨fun z hz => ?_, intIns_sorted x h2⟩
      rcases List.mem_cons.mp ((intIns_perm x ys).mem_iff.mp hz) with e | hz
      · omega
      · exact h1 z hz
    · rename_i c
      refine List.pairwise_cons.mpr ⟨fun z hz => ?_, h⟩
      rcases List.mem_cons.mp hz with e | hz
      · omega
      · have := h1 z hz; omega
theorem intSort_sorted : ∀ xs : List Int, (intSort xs).Pairwise (· ≤ ·)
  | [] => List.Pairwise.nil
  | x :: xs => by rw [intSort]; exact intIns_sorted x (intSort_sorted xs)
theorem intSort_eq {l xs : List Int} (h : l.Perm xs) (hs : l.Pairwise (· ≤ ·)) : l = intSort xs :=
  sorted_uniq (· ≤ ·) (fun a b h1 h2 => by omega) (h.trans (intSort_perm xs).symm) hs (intSort_sorted xs)
theorem strs?_eq : ∀ {xs : List PD} {ns : List Str}, strs? xs = some ns → xs = ns.map PD.str
  | [], ns, h => by
    simp only [strs?, Option.some.injEq] at h
    subst h; rfl
  | x :: xs, ns, h => by
    cases x <;> simp only [strs?, reduceCtorEq] at h
    split at h <;> cases h
    rename_i ms e
    rw [strs?_eq e]; rfl
theorem strs?_map : ∀ (ns : List Str), strs? (ns.map PD.str) = some ns
  | [] => rfl
  | n :: ns => by
    rw [List.map_cons, strs?, strs?_map ns]
theorem reps_strs {k : Kx} {G : Hp} : ∀ (ns : List Str), Reps k G (ns.map PD.str) (ns.map V.str)
  | [] => Reps.nil
  | n :: ns => Reps.cons Rep.str (reps_strs ns)
/-! texts -/
def strLe (a b : Str) : Prop := ltCps b.cps.toList a.cps.toList = false
theorem ltc_irr : ∀ a : List Nat, ltCps a a = false
  | [] => rfl
  | x :: a => by simp [ltCps, ltc_irr a]
theorem ltc_tri : ∀ {a b : List Nat}, ltCps a b = false → ltCps b a = false → a = b
  | [], [], _, _ => rfl
  | [], _ :: _, h, _ => by simp [ltCps] at h
  | _ :: _, [], _, h => by simp [ltCps] at h
  | x :: a, y :: b, h1, h2 => by
    simp only [ltCps, Bool.or_eq_false_iff, decide_eq_false_iff_not, Bool.and_eq_false_iff, beq_eq_false_iff_ne] at h1 h2
    have e : x = y := by omega
    subst e
    rw [ltc_tri (h1.2.resolve_left fun z => z rfl) (h2.2.resolve_left fun z => z rfl)]
theorem ltc_trans : ∀ {a b c : List Nat}, ltCps a b = true → ltCps b c = true → ltCps a c = true
  | [], _, [], _, h => by rename_i b _; cases b <;> simp [ltCps] at h
  | [], _, _ :: _, _, _ => rfl
  | _ :: _, [], _, h, _ => by simp [ltCps] at h
  | _ :: _, _ :: _, [], _, h => by simp [ltCps] at h
  | x :: a, y :: b, z :: c, h1, h2 => by
    simp only [ltCps, Bool.or_eq_true, decide_eq_true_eq, Bool.and_eq_true, beq_iff_eq] at h1 h2 ⊢
    rcases h1 with h1 | ⟨h1, k1⟩ <;> rcases h2 with h2 | ⟨h2, k2⟩
    · exact .inl (by omega)
    · exact .inl (by omega)
    · exact .inl (by omega)
    · exact .inr ⟨by omega, ltc_trans k1 k2⟩
theorem strLe_trans {a b c : Str} (h1 : strLe a b) (h2 : strLe b c) : strLe a c := by
  unfold strLe at *
  cases e : ltCps c.cps.toList a.cps.toList with
  | false => rfl
  | true =>
    cases e2 : ltCps a.cps.toList b.cps.toList with
    | true => rw [ltc_trans e e2] at h2; cases h2
    | false => rw [ltc_tri e2 h1] at e; rw [e] at h2; cases h2
theorem strLe_tri {a b : Str} (h1 : strLe a b) (h2 : strLe b a) : a = b := by
  have := ltc_tri h2 h1
  cases a; cases b
  simpa using this
theorem strIns_perm (x : Str) : ∀ ys : List Str, (strIns x ys).Perm (x :: ys)
  | [] => List.Perm.refl _
  | y :: ys => by
    rw [strIns]
    split
    · exact ((strIns_perm x ys).cons y).trans (List.Perm.swap ..)
    · exact List.Perm.refl _
theorem strSort_perm : ∀ xs : List Str, (strSort xs).Perm xs
  | [] => List.Perm.refl _
  | x :: xs => by rw [strSort]; exact (strIns_perm x _).trans ((strSort_perm xs).cons x)
theorem strIns_sorted (x : Str) : ∀ {ys : List Str}, ys.Pairwise strLe → (strIns x ys).Pairwise strLe
  | [], _ => by rw [strIns]; exact List.pairwise_singleton ..
  | y :: ys, h => by
    obtain ⟨h1, h2⟩ := List.pairwise_cons.mp h
    rw [strIns]
    split
    · rename_i c
      refine List.pairwise_cons.mpr ⟨fun z hz => ?_, strIns_sorted x h2⟩
      rcases List.mem_cons.mp ((strIns_perm x ys).mem_iff.mp hz) with e | hz
      · subst e
        unfold strLe
        cases e : ltCps z.cps.toList y.cps.toList with
        | false => rfl
        | true => have := ltc_trans c e; rw [ltc_irr] at this; cases this
      · exact h1 z hz
    · rename_i c
      have c : strLe x y := by simpa [strLe] using c
      refine List.pairwise_cons.mpr ⟨fun z hz => ?_, h⟩
      rcases List.mem_cons.mp hz with e | hz
      · subst e; exact c
      · exact strLe_trans c (h1 z hz)
theorem strSort_sorted : ∀ xs : List Str, (strSort xs).Pairwise strLe
  | [] => List.Pairwise.nil
  | x :: xs => by rw [strSort]; exact strIns_sorted x (strSort_sorted xs)
theorem rising_pw : ∀ {l : List Str} {p : Str}, PyProof.Rows.risingS p l = true → (p :: l).Pairwise strLe
  | [], _, _ => List.pairwise_singleton ..
  | x :: l, p, h => by
    simp only [PyProof.Rows.risingS, Bool.and_eq_true, Bool.not_eq_true'] at h
    have r := rising_pw h.2
    refine List.pairwise_cons.mpr ⟨fun z hz => ?_, r⟩
    rcases List.mem_cons.mp hz with e | hz
    · subst e; exact h.1
    · exact strLe_trans h.1 ((List.pairwise_cons.mp r).1 z hz)
theorem strSort_eq {l xs : List Str} (h : l.Perm xs) (hs : PyProof.Rows.sortedS l = true) : l = strSort xs := by
  refine sorted_uniq strLe (fun a b h1 h2 => strLe_tri h1 h2) (h.trans (strSort_perm xs).symm) ?_ (strSort_sorted xs)
  cases l with
  | nil => exact List.Pairwise.nil
  | cons x l => exact rising_pw hs
theorem maxL_ge : ∀ (m : Int) (xs : List Int), m ≤ maxL m xs ∧ (∀ x ∈ xs, x ≤ maxL m xs) ∧ (maxL m xs = m ∨ maxL m xs ∈ xs)
  | m, [] => by
    rw [maxL]
    exact ⟨Int.le_refl _, (fun _ h => nomatch h), Or.inl rfl⟩
  | m, x :: xs => by
    rw [maxL]
    obtain ⟨a, b, c⟩ := maxL_ge (if x > m then x else m) xs
    have e1 : m ≤ (if x > m then x else m) ∧ x ≤ (if x > m then x else m) := by split <;> omega
    refine ⟨by omega, fun y hy => ?_, ?_⟩
    · rcases List.mem_cons.mp hy with e | hy
      · omega
      · exact b y hy
    · rcases c with c | c
      · split at c
        · rename_i h
          rw [if_pos h, c]
          exact .inr (List.mem_cons_self ..)
        · rename_i h
          rw [if_neg h, c]
          exact .inl rfl
      · exact .inr (List.mem_cons_of_mem _ c)
theorem minL_le : ∀ (m : Int) (xs : List Int), minL m xs ≤ m ∧ (∀ x ∈ xs, minL m xs ≤ x) ∧ (minL m xs = m ∨ minL m xs ∈ xs)
  | m, [] => by
    rw [minL]
    exact ⟨Int.le_refl _, (fun _ h => nomatch h), Or.inl rfl⟩
  | m, x :: xs => by
    rw [minL]
    obtain ⟨a, b, c⟩ := minL_le (if x < m then x else m) xs
    have e1 : m ≥ (if x < m then x else m) ∧ x ≥ (if x < m then x else m) := by split <;> omega
    refine ⟨by omega, fun y hy => ?_, ?_⟩
    · rcases List.mem_cons.mp hy with e | hy
      · omega
      · exact b y hy
    · rcases c with c | c
      · split at c
        · rename_i h
          rw [if_pos h, c]
          exact .inr (List.mem_cons_self ..)
        · rename_i h
          rw [if_neg h, c]
          exact .inl rfl
      · exact .inr (List.mem_cons_of_mem _ c)
theorem dedup_mem : ∀ {xs : List (List Int)} {x : List Int}, x ∈ dedup xs ↔ x ∈ xs
  | [], x => Iff.rfl
  | y :: ys, x => by
    rw [dedup]
    split
    · rename_i h
      rw [dedup_mem, List.mem_cons]
      exact ⟨.inr, fun z => by
        rcases z with e | z
        · rw [e]; exact h
        · exact z⟩
    · rw [List.mem_cons, List.mem_cons, dedup_mem]
theorem dedup_nodup : ∀ xs : List (List Int), (dedup xs).Nodup
  | [] => List.nodup_nil
  | y :: ys => by
    rw [dedup]
    split
    · exact dedup_nodup ys
    · rename_i h
      exact List.nodup_cons.mpr ⟨fun z => h (dedup_mem.mp z), dedup_nodup ys⟩
theorem dedup_perm {l xs : List (List Int)} (hn : l.Nodup) (h : ∀ x, x ∈ l ↔ x ∈ xs) : l.Perm (dedup xs) :=
  (List.perm_ext_iff_of_nodup hn (dedup_nodup xs)).mpr fun x => (h x).trans dedup_mem.symm
theorem tints_eq : ∀ {xs : List PD} {L : List (List Int)}, tints? xs = some L → xs = L.map tupI
  | [], L, h => by simp only [tints?, Option.some.injEq] at h; subst h; rfl
  | x :: xs, L, h => by
    cases x <;> simp only [tints?, reduceCtorEq] at h
    split at h
    · rename_i ns e
      split at h
      · rename_i rs e2
        simp only [Option.some.injEq] at h
        subst h
        rw [List.map_cons, ← tints_eq e2, ints?_eq e]
        rfl
      · cases h
    · cases h
end FS

set_option maxRecDepth 100000
set_option autoImplicit false
namespace FS
open PySem PySem.Spec L2 PyProof.Rows
section
variable {prog : Program} {w : World} {A : Around} {E : Value → Shared → Prop} {s : Shared}
theorem sliceApplied_rev {sl : Addr} {vl vu vk : Value} {n : Nat} {Q : Int × Int × Nat → Shared → Prop} (hs : s.heap.IsSliceOf sl vl vu vk) (pl : IsPart vl none) (pu : IsPart vu none) (pk : IsPart vk (some (-1)))
    (h : Q ((n : Int) - 1, -1, n) s) : wpAny (model prog w) A (Builtin.Slice.sliceApplied (.ref sl) (pure (n : Int))) Q E s := by
  obtain ⟨os, hos, hcs, hds⟩ := id hs
  unfold Builtin.Slice.sliceApplied Builtin.Slice.sliceFields
  refine wpAny_bind (wpAny_bind (wpAny_field hos hds (x := vl) rfl (wpAny_bind (wpAny_field hos hds (x := vu) rfl (wpAny_bind (wpAny_field hos hds (x := vk) rfl (wpAny_pure ?_)))))))
  refine wpAny_bind (HT.slicePart_ pk ?_)
  show wpAny _ _ (if ((-1 : Int) == 0) = true then _ else _) _ _ s
  rw [if_neg (by decide)]
  refine wpAny_bind (HT.slicePart_ pl (wpAny_bind (HT.slicePart_ pu (wpAny_bind (wpAny_pure ?_)))))
  have e1 : Builtin.Slice.sliceAdjust none none (-1) (n : Int) = ((n : Int) - 1, -1) := by
    unfold Builtin.Slice.sliceAdjust
    simp
  have e2 : Builtin.Slice.slicePlaces ((n : Int) - 1) (-1) (-1) = n := by
    unfold Builtin.Slice.slicePlaces
    simp
    omega
  show wpAny _ _ (match Builtin.Slice.sliceAdjust none none (-1) (n : Int) with | (lo, hi) => pure (lo, (-1 : Int), Builtin.Slice.slicePlaces lo hi (-1))) _ _ s
  rw [e1]
  show wpAny _ _ (pure ((n : Int) - 1, (-1 : Int), Builtin.Slice.slicePlaces ((n : Int) - 1) (-1) (-1))) _ _ s
  rw [e2]
  exact wpAny_pure h
theorem fm_congr {α β : Type} {f g : α → Option β} : ∀ {l : List α}, (∀ x ∈ l, f x = g x) → l.filterMap f = l.filterMap g
  | [], _ => rfl
  | a :: l, h => by
    rw [List.filterMap_cons, List.filterMap_cons, h a (List.mem_cons_self ..), fm_congr fun x hx => h x (List.mem_cons_of_mem _ hx)]
theorem pick_rev (xs : Array Value) : ((List.range xs.size).filterMap fun (m : Nat) => xs[((xs.size : Int) - 1 + (m : Int) * -1).toNat]?).toArray = xs.toList.reverse.toArray := by
  have e : (List.range xs.size).filterMap (fun (m : Nat) => xs[((xs.size : Int) - 1 + (m : Int) * -1).toNat]?) = ((List.range xs.size).map fun k => xs.size - 1 - k).filterMap (xs[·]?) := by
    rw [List.filterMap_map]
    refine fm_congr fun m hm => ?_
    have := List.mem_range.mp hm
    have : ((xs.size : Int) - 1 + (m : Int) * -1).toNat = xs.size - 1 - m := by omega
    show _ = xs[xs.size - 1 - m]?
    rw [this]
  rw [e, PySem.W.krv_range, List.filterMap_reverse, PySem.W.krv_all]
theorem getItem_tuple_rev {t sl : Addr} {items : Array Value} {vl vu vk : Value} {Q : Value → Shared → Prop} (ht : IsTup s.heap t items) (hs : s.heap.IsSliceOf sl vl vu vk) (pl : IsPart vl none) (pu : IsPart vu none) (pk : IsPart vk (some (-1)))
    (h : Q (.ref s.heap.objs.size) { s with heap := s.heap.push { cls := .type "tuple", data := .seq items.toList.reverse.toArray } })
    (hsz : items.size ≤ sizeLine) : wpAny (model prog w) A (getItem (.ref t) (.ref sl)) Q E s := by
  have htake : sizeOk (.seq items.toList.reverse.toArray) := by
    show items.toList.reverse.toArray.size ≤ sizeLine
    rw [List.size_toArray, List.length_reverse, Array.length_toList]
    exact hsz
  obtain ⟨os, hos, hcs, hds⟩ := id hs
  have hTs : s.TypeIs (.ref sl) "slice" := ⟨os, hos, hcs⟩
  unfold getItem
  try with_reducible refine wpAny_holding ?_
  first | refine wpAny_bind (wpAny_pure ?_) | skip
  refine wpAny_bind (wpAny_sequenceKey ht.typeIs (by decide) ?_)
  refine wpAny_bind (wpAny_callSpecial?_slot (name := Str.ofString "__getitem__") ht.typeIs PyProof.Rows.slot_tuple_getitem
    (wpAny_call_entry PyProof.Rows.slot_tuple_getitem ht.typeIs entry_tuple_getitem ?_ (args_tuple_getitem _ _)))
  show wpAny _ _ (Builtin.Tuple.tupleItemsOf (.ref t) >>= _) _ _ s
  refine wpAny_bind (tupleItemsOf_ ht ?_)
  refine wpAny_bind (wpAny_typeOf hTs ?_)
  rw [if_pos (by decide)]
  refine wpAny_bind (sliceApplied_rev hs pl pu pk ?_)
  have hno : ¬ ((((items.size : Int) - 1) == 0 && (-1 : Int) == 1 && items.size == items.size) = true) := by
    intro q
    rw [Bool.and_eq_true, Bool.and_eq_true] at q
    exact absurd q.1.2 (by decide)
  show wpAny _ _ (if (((items.size : Int) - 1) == 0 && (-1 : Int) == 1 && items.size == items.size) = true then _ else _) _ _ s
  rw [if_neg hno, pick_rev]
  first
    | exact wpAny_bind (m := Builtin.Tuple.tupleExact _) (wpAny_newObj_type (wpAny_pure ⟨_, rfl, wpAny_pure h⟩) htake)
    | exact wpAny_bind (m := Builtin.Tuple.tupleExact _) (wpAny_newObj_type (wpAny_bind (wpAny_pure (wpAny_pure ⟨_, rfl, wpAny_pure h⟩))) htake)
    | exact wpAny_bind (wpAny_bind (m := Builtin.Tuple.tupleExact _) (wpAny_newObj_type (wpAny_pure (wpAny_pure ⟨_, rfl, wpAny_pure h⟩)) htake))
    | exact wpAny_bind (wpAny_bind (m := Builtin.Tuple.tupleExact _) (wpAny_newObj_type (wpAny_pure ⟨_, rfl, wpAny_pure h⟩) htake))
end
/-! ### xs[::-1] of a tuple or a list -/
def tRevA (K : PySem.W.Frag) (te : TE) : TE := fun σ H Q => te σ H fun x H1 => ∃ a xs, x = .ref a ∧ ((SqL K H1 a xs ∧ ∀ p, H1 p = none → Q (.ref p) (upd H1 p (.lst xs.reverse))) ∨ (SqT K H1 a xs ∧ ∀ p, H1 p = none → Q (.ref p) (upd H1 p (.tup xs.reverse))))
theorem pe_revA {X : Cx} {e : Expr} {te : TE} {k : Nat} {p1 p2 p3 pos : Pos} (he : PE X e te) : PE X (.Subscript e (.Slice none none (some (.UnaryOp .USub (.Constant (.int 1) k p1) p2)) p3) pos) (tRevA X.K te) := by
  refine ⟨fun pins s σ H Q I h => ?_⟩
  refine Subscript_ (thn (he.run pins s σ H _ I h) fun v s1 ⟨x, H1, I1, r1, q1⟩ => ?_)
  obtain ⟨a, xs, ex, hx⟩ := q1
  subst ex
  cases r1
  have hst : PO X (some (.UnaryOp .USub (.Constant (.int 1) k p1) p2)) (tPart (tUn (rU fun i => .int (-i)) (tC (.int 1)))) := po_some (pe_un un_neg pe_int)
  refine wpAny_Slice (thn (po_none.run pins s1 σ H1 (fun o H2 => o = none ∧ H2 = H1) I1 ⟨rfl, rfl⟩) fun vl s2 ⟨l, H2, I2, pl, el, e2⟩ => ?_)
  subst el e2
  refine thn (po_none.run pins s2 σ H2 (fun o H3 => o = none ∧ H3 = H2) I2 ⟨rfl, rfl⟩) fun vu s3 ⟨u, H3, I3, pu, eu, e3⟩ => ?_
  subst eu e3
  refine thn (hst.run pins s3 σ H3 (fun o H4 => o = some (-1) ∧ H4 = H3) I3 ⟨1, rfl, -1, rfl, rfl, rfl⟩) fun vs s4 ⟨o, H4, I4, ps, eo, e4⟩ => ?_
  subst eo e4
  have I5 : Inv X pins σ H4 { s4 with heap := s4.heap.push { cls := .type "slice", data := .fields #[vl, vu, vs] } } := I4.kept (t' := s4.toks) fun b ob q => Heap.get?_push_of_some _ q
  show wpAny (model X.prog X.w) X.A (subscriptTail e (.Slice none none (some (.UnaryOp .USub (.Constant (.int 1) k p1) p2)) p3) (.ref a) (.ref s4.heap.objs.size)) (EP X pins σ Q) X.xe { s4 with heap := s4.heap.push { cls := .type "slice", data := .fields #[vl, vu, vs] } }
  rcases hx with ⟨hx, q⟩ | ⟨hx, q⟩
  · obtain ⟨its, r, ht, hz⟩ := I5.list hx
    have hlen := r.length
    refine tail_any (ops := [.ref a, .ref s4.heap.objs.size]) ht.isList.typeIs (PySem.slot_list_getitem.lookup) ?_ (by with_unfolding_all rfl)
    refine wpAny_getItem_list_slice ht.isList (Heap.IsSliceOf.new _ vl vu vs) pl pu ps (by decide) ?_ (by rw [List.size_toArray]; omega)
    rw [PySem.W.krv_pick]
    refine ⟨.ref _, _, I5.laid (t' := s4.toks) (o := .lst xs.reverse) (fun b ob q => Heap.get?_push_of_some _ q) (Nat.le_refl _) ?_, rfl, q _ (I5.hok.fresh (Nat.le_refl _))⟩
    exact ⟨by rw [List.length_reverse]; exact hz, _, 0, r.reverse, Heap.get?_push_size _ rfl⟩
  · obtain ⟨its, r, ht, hz⟩ := I5.tuple hx
    have hlen := r.length
    refine tail_any (ops := [.ref a, .ref s4.heap.objs.size]) ht.typeIs (PyProof.Rows.slot_tuple_getitem.lookup) ?_ (by with_unfolding_all rfl)
    refine getItem_tuple_rev ht (Heap.IsSliceOf.new _ vl vu vs) pl pu ps ?_ (by rw [List.size_toArray]; omega)
    refine ⟨.ref _, _, I5.laid (t' := s4.toks) (o := .tup xs.reverse) (fun b ob q => Heap.get?_push_of_some _ q) (Nat.le_refl _) ?_, rfl, q _ (I5.hok.fresh (Nat.le_refl _))⟩
    exact ⟨by rw [List.length_reverse]; exact hz, _, r.reverse, IsTup.new _ _⟩
end FS

set_option maxRecDepth 100000
set_option autoImplicit false
set_option maxHeartbeats 1000000
/-! One operand, slices, what is walked, targets. -/
namespace FS
open PySem PySem.Spec L2

theorem ResOk.int {k : Kx} {p : Addr → Prop} {H H' : Hp} {i : Int} {v : V} (h : ResOk k p H H' (.v (.int i)) v) : v = .int i := Rep.ofInt (show Rep k (part p H') (.int i) v from h)
theorem ResOk.bl {k : Kx} {p : Addr → Prop} {H H' : Hp} {i : Bool} {v : V} (h : ResOk k p H H' (.v (.bl i)) v) : v = .bl i := Rep.ofBl (show Rep k (part p H') (.bl i) v from h)
/-! ### one operand -/
def rU (K : PySem.W.Frag) : U → V → Hp → VK → Prop
  | .neg => fun x H Q => ∃ i, x = .int i ∧ Q (.int (-i)) H
  | .len => fun x H Q => (∃ p ys, [x] = [V.ref p] ∧ (SqL K H p ys ∨ SqT K H p ys) ∧ Q (.int ys.length) H) ∨ (∃ z, [x] = [V.str z] ∧ z.length ≤ sizeLine ∧ Q (.int z.length) H)
  | .abs => fun x H Q => ∃ i, [x] = [V.int i] ∧ Q (.int (if i < 0 then -i else i)) H
  | .int1 => fun x H Q => ((∃ i, [x] = [V.int i] ∧ Q (.int i) H) ∨ ∃ c, [x] = [V.bl c] ∧ Q (.int (if c then 1 else 0)) H) ∨ ∃ a n, [x] = [V.str a] ∧ PySem.intText? a = some n ∧ a.length ≤ 640 ∧ Q (.int n) H
  | .tuple1 => fun x H Q => ∃ p ys, [x] = [V.ref p] ∧ ((SqL K H p ys ∧ ∀ l, H l = none → Q (.ref l) (upd H l (.tup ys))) ∨ (SqT K H p ys ∧ Q (.ref p) H))
  | .list1 => fun x H Q => ∃ p ys, [x] = [V.ref p] ∧ (SqL K H p ys ∨ SqT K H p ys) ∧ ∀ l, H l = none → Q (.ref l) (upd H l (.lst ys))
  | .sum => fun x H Q => rSum K [x] H Q
  | .all => fun x H Q => rAll K [x] H Q
  | .any => fun x H Q => rAny K [x] H Q
  | .max1 => fun x H Q => rMax K [x] H Q ∨ rMaxT K [x] H Q
  | .min1 => fun x H Q => rMin K [x] H Q ∨ rMinT K [x] H Q
  | .sorted1 => fun x H Q => (rSortedI K [x] H Q ∨ rSortN K [x] H Q) ∨ rSortedS K [x] H Q
  | .str1 => fun x H Q => (∃ i, [x] = [V.int i] ∧ i.natAbs.log2 < 1920 ∧ Q (.str (toString i)) H) ∨ ∃ a, [x] = [V.str a] ∧ Q (.str a) H
  | .strd => fun x H Q => ∃ a d, [x] = [V.ref a] ∧ Dp K H (.ref a) d ∧ shOk d = true ∧ Q (.str d.shown) H
/-- which numbers stand in the tuples of a list -/
theorem reps_tups {k : Kx} {G : Hp} : ∀ {L : List (List Int)} {vs : List V}, Reps k G (L.map tupI) vs → ∃ M : List (Addr × List Int), vs = (M.map fun q => V.ref q.1) ∧ M.map (·.2) = L ∧ ∀ q ∈ M, Rep k G (tupI q.2) (V.ref q.1)
  | [], vs, r => ⟨[], Reps.nil_iff.mp r, rfl, fun _ h => nomatch h⟩
  | ns :: L, vs, r => by
    obtain ⟨v, ws, rfl, q, r⟩ := Reps.cons_iff.mp r
    obtain ⟨M, e1, e2, h⟩ := reps_tups r
    obtain ⟨t, us, rfl, h1, r1⟩ := Rep.ofTup q
    refine ⟨(t, ns) :: M, by rw [e1]; rfl, by rw [List.map_cons, e2], fun x hx => ?_⟩
    rcases List.mem_cons.mp hx with z | z
    · rw [z]; exact q
    · exact h x z
theorem reps_rows {k : Kx} {G : Hp} : ∀ {M : List (Addr × List Int)}, (∀ q ∈ M, Rep k G (tupI q.2) (V.ref q.1)) → Reps k G ((M.map (·.2)).map tupI) (M.map fun q => V.ref q.1)
  | [], _ => Reps.nil
  | q :: M, h => Reps.cons (h q (List.mem_cons_self ..)) (reps_rows fun x hx => h x (List.mem_cons_of_mem _ hx))
theorem rep_ints {k : Kx} {G : Hp} {ns : List Int} {t : Addr} (h : Rep k G (tupI ns) (V.ref t)) : SqT k.K G t (ns.map V.int) := by
  obtain ⟨t', us, e, h1, r1⟩ := Rep.ofTup h
  cases e
  rw [Reps.ints r1] at h1
  exact h1
theorem all_ne {L : List (List Int)} (h : L.all (fun ns => !ns.isEmpty) = true) : ∀ ns ∈ L, ns ≠ [] := fun ns hn e => by
  have := List.all_eq_true.mp h ns hn
  rw [e] at this
  cases this
theorem uOk (k : Kx) (o : U) : UnOk k (rU k.K o) (uSem o) := by
  intro x
  constructor
  · cases o <;> cases x <;> simp only [uSem, okI, okB] <;> first | trivial | (split <;> trivial) | (split <;> first | trivial | (split <;> first | trivial | (split <;> first | trivial | (split <;> trivial))))
  · intro s e p H v Q f rx q
    have le : Same (part p H) H := part_le
    cases o
    case neg =>
      cases x <;> simp only [uSem, okI, reduceCtorEq] at e
      cases e
      exact ⟨_, rx.ofInt, q _ _ (Same.refl _) ResOk.flatI⟩
    case len =>
      cases x <;> simp only [uSem, okI, reduceCtorEq] at e
      · split at e <;> cases e
        rename_i z
        exact .inr ⟨_, by rw [rx.ofStr], z, q _ _ (Same.refl _) ResOk.flatI⟩
      · cases e
        obtain ⟨a, vs, rfl, h1, r1⟩ := rx.ofTup
        refine .inl ⟨a, vs, rfl, .inr (sqT_mono le h1), q _ _ (Same.refl _) ?_⟩
        rw [r1.length]; exact ResOk.flatI
      · cases e
        obtain ⟨a, vs, rfl, h1, r1⟩ := rx.ofLst
        refine .inl ⟨a, vs, rfl, .inl ((h1.mono le).sql), q _ _ (Same.refl _) ?_⟩
        rw [r1.length]; exact ResOk.flatI
    case abs =>
      cases x <;> simp only [uSem, okI, reduceCtorEq] at e
      cases e
      exact ⟨_, by rw [rx.ofInt], q _ _ (Same.refl _) ResOk.flatI⟩
    case int1 =>
      cases x <;> simp only [uSem, okI, reduceCtorEq] at e
      · cases e
        exact .inl (.inr ⟨_, by rw [rx.ofBl], q _ _ (Same.refl _) ResOk.flatI⟩)
      · cases e
        exact .inl (.inl ⟨_, by rw [rx.ofInt], q _ _ (Same.refl _) ResOk.flatI⟩)
      · split at e
        · rename_i z
          split at e <;> cases e
          rename_i n en
          exact .inr ⟨_, n, by rw [rx.ofStr], en, z, q _ _ (Same.refl _) ResOk.flatI⟩
        · cases e
    case tuple1 =>
      cases x <;> simp only [uSem, reduceCtorEq] at e
      · cases e
        obtain ⟨a, vs, rfl, h1, r1⟩ := rx.ofTup
        exact ⟨a, vs, rfl, .inr ⟨sqT_mono le h1, q _ _ (Same.refl _) rx⟩⟩
      · cases e
        obtain ⟨a, vs, rfl, h1, r1⟩ := rx.ofLst
        exact ⟨a, vs, rfl, .inl ⟨(h1.mono le).sql, fun l n => q _ _ (same_new n) (ResOk.newT f n r1)⟩⟩
    case list1 =>
      cases x <;> simp only [uSem, reduceCtorEq] at e
      · cases e
        obtain ⟨a, vs, rfl, h1, r1⟩ := rx.ofTup
        exact ⟨a, vs, rfl, .inr (sqT_mono le h1), fun l n => q _ _ (same_new n) (ResOk.newL n r1)⟩
      · cases e
        obtain ⟨a, vs, rfl, h1, r1⟩ := rx.ofLst
        exact ⟨a, vs, rfl, .inl ((h1.mono le).sql), fun l n => q _ _ (same_new n) (ResOk.newL n r1)⟩
    case sum =>
      cases x <;> simp only [uSem, okI, reduceCtorEq] at e
      split at e <;> cases e
      rename_i ns en
      obtain ⟨a, vs, rfl, h1, r1⟩ := rx.ofLst
      rw [ints?_eq en] at r1
      rw [Reps.ints r1] at h1
      exact ⟨a, ns, rfl, (h1.mono le).sql, q _ _ (Same.refl _) ResOk.flatI⟩
    case all =>
      cases x <;> simp only [uSem, okB, reduceCtorEq] at e
      split at e <;> cases e
      rename_i ns en
      obtain ⟨a, vs, rfl, h1, r1⟩ := rx.ofLst
      rw [bls?_eq en] at r1
      rw [Reps.bls r1] at h1
      exact ⟨a, ns, rfl, (h1.mono le).sql, q _ _ (Same.refl _) ResOk.flatB⟩
    case any =>
      cases x <;> simp only [uSem, okB, reduceCtorEq] at e
      split at e <;> cases e
      rename_i ns en
      obtain ⟨a, vs, rfl, h1, r1⟩ := rx.ofLst
      rw [bls?_eq en] at r1
      rw [Reps.bls r1] at h1
      exact ⟨a, ns, rfl, (h1.mono le).sql, q _ _ (Same.refl _) ResOk.flatB⟩
    case strd =>
      cases x <;> simp only [uSem, reduceCtorEq] at e
      · split at e <;> cases e
        rename_i xs z
        have cl : (PD.tup xs).py.canLay0 = true := by
          simp only [shOk, Bool.and_eq_true] at z
          exact z.1.1.1.2
        obtain ⟨a, vs, rfl, h1, r1⟩ := rx.ofTup
        exact ⟨a, _, rfl, rx.dp le cl, z, q _ _ (Same.refl _) ResOk.flatS⟩
      · split at e <;> cases e
        rename_i xs z
        have cl : (PD.lst xs).py.canLay0 = true := by
          simp only [shOk, Bool.and_eq_true] at z
          exact z.1.1.1.2
        obtain ⟨a, vs, rfl, h1, r1⟩ := rx.ofLst
        exact ⟨a, _, rfl, rx.dp le cl, z, q _ _ (Same.refl _) ResOk.flatS⟩
    case str1 =>
      cases x <;> simp only [uSem, reduceCtorEq] at e
      · split at e <;> cases e
        rename_i z
        exact .inl ⟨_, by rw [rx.ofInt], z, q _ _ (Same.refl _) ResOk.flatS⟩
      · cases e
        exact .inr ⟨_, by rw [rx.ofStr], q _ _ (Same.refl _) ResOk.flatS⟩

    case max1 =>
      cases x <;> simp only [uSem, okI, reduceCtorEq] at e
      · split at e <;> cases e
        rename_i n ns en
        obtain ⟨a, vs, rfl, h1, r1⟩ := rx.ofTup
        rw [ints?_eq en] at r1
        rw [Reps.ints r1] at h1
        obtain ⟨g1, g2, g3⟩ := maxL_ge n ns
        refine .inr ⟨a, n :: ns, rfl, sqT_mono le h1, by simp, fun m hm hb => ?_⟩
        have em : m = maxL n ns := by
          have u1 : maxL n ns ≤ m := by
            rcases g3 with g3 | g3
            · rw [g3]; exact hb n (List.mem_cons_self ..)
            · exact hb _ (List.mem_cons_of_mem _ g3)
          have u2 : m ≤ maxL n ns := by
            rcases List.mem_cons.mp hm with z | z
            · rw [z]; exact g1
            · exact g2 m z
          omega
        rw [em]
        exact q _ _ (Same.refl _) ResOk.flatI
      · split at e <;> cases e
        rename_i n ns en
        obtain ⟨a, vs, rfl, h1, r1⟩ := rx.ofLst
        rw [ints?_eq en] at r1
        rw [Reps.ints r1] at h1
        obtain ⟨g1, g2, g3⟩ := maxL_ge n ns
        refine .inl ⟨a, n :: ns, rfl, (h1.mono le).sql, by simp, fun m hm hb => ?_⟩
        have em : m = maxL n ns := by
          have u1 : maxL n ns ≤ m := by
            rcases g3 with g3 | g3
            · rw [g3]; exact hb n (List.mem_cons_self ..)
            · exact hb _ (List.mem_cons_of_mem _ g3)
          have u2 : m ≤ maxL n ns := by
            rcases List.mem_cons.mp hm with z | z
            · rw [z]; exact g1
            · exact g2 m z
          omega
        rw [em]
        exact q _ _ (Same.refl _) ResOk.flatI
    case min1 =>
      cases x <;> simp only [uSem, okI, reduceCtorEq] at e
      · split at e <;> cases e
        rename_i n ns en
        obtain ⟨a, vs, rfl, h1, r1⟩ := rx.ofTup
        rw [ints?_eq en] at r1
        rw [Reps.ints r1] at h1
        obtain ⟨g1, g2, g3⟩ := minL_le n ns
        refine .inr ⟨a, n :: ns, rfl, sqT_mono le h1, by simp, fun m hm hb => ?_⟩
        have em : m = minL n ns := by
          have u1 : m ≤ minL n ns := by
            rcases g3 with g3 | g3
            · rw [g3]; exact hb n (List.mem_cons_self ..)
            · exact hb _ (List.mem_cons_of_mem _ g3)
          have u2 : minL n ns ≤ m := by
            rcases List.mem_cons.mp hm with z | z
            · rw [z]; exact g1
            · exact g2 m z
          omega
        rw [em]
        exact q _ _ (Same.refl _) ResOk.flatI
      · split at e <;> cases e
        rename_i n ns en
        obtain ⟨a, vs, rfl, h1, r1⟩ := rx.ofLst
        rw [ints?_eq en] at r1
        rw [Reps.ints r1] at h1
        obtain ⟨g1, g2, g3⟩ := minL_le n ns
        refine .inl ⟨a, n :: ns, rfl, (h1.mono le).sql, by simp, fun m hm hb => ?_⟩
        have em : m = minL n ns := by
          have u1 : m ≤ minL n ns := by
            rcases g3 with g3 | g3
            · rw [g3]; exact hb n (List.mem_cons_self ..)
            · exact hb _ (List.mem_cons_of_mem _ g3)
          have u2 : minL n ns ≤ m := by
            rcases List.mem_cons.mp hm with z | z
            · rw [z]; exact g1
            · exact g2 m z
          omega
        rw [em]
        exact q _ _ (Same.refl _) ResOk.flatI
    case sorted1 =>
      cases x <;> simp only [uSem, reduceCtorEq] at e
      obtain ⟨a, vs, rfl, h1, r1⟩ := rx.ofLst
      split at e
      · cases e
        rename_i ns en
        rw [ints?_eq en] at r1
        rw [Reps.ints r1] at h1
        refine .inl (.inl ⟨a, ns, rfl, (h1.mono le).sql, fun ns' l hp hs n => ?_⟩)
        rw [intSort_eq hp hs]
        exact q _ _ (same_new n) (ResOk.newL n (Reps.of_ints _))
      · split at e
        · rename_i L eL
          split at e <;> cases e
          rename_i ne
          rw [tints_eq eL] at r1
          obtain ⟨M, eM, e2, hM⟩ := reps_tups r1
          rw [eM] at h1
          refine .inl (.inr ⟨a, M, rfl, (h1.mono le).sql, fun x hx => ⟨sqT_mono le (rep_ints (hM x hx)), all_ne ne _ (by rw [← e2]; exact List.mem_map.mpr ⟨x, hx, rfl⟩)⟩, fun M' l hp hs n => ?_⟩)
          have em : M'.map (·.2) = lexSort L := lexSort_eq (by rw [← e2]; exact hp.map (·.2)) (List.pairwise_map.mpr hs)
          refine q _ _ (same_new n) (ResOk.newL n ?_)
          rw [← em]
          exact reps_rows fun x hx => hM x (hp.mem_iff.mp hx)
        · split at e
          · rename_i ss es
            split at e <;> cases e
            rename_i h64
            rw [strs?_eq es] at r1
            rw [Reps.strs r1] at h1
            refine .inr ⟨a, ss, rfl, (h1.mono le).sql, h64, fun ys l hp hs n => ?_⟩
            rw [strSort_eq hp hs]
            exact q _ _ (same_new n) (ResOk.newL n (reps_strs _))
          · cases e

/-- the built-in function or class that is called -/
inductive Cl where
  | fn (id : String)
  | ty (n : String)
  deriving DecidableEq
def U.cl : U → Option (Str × Cl)
  | .neg => none
  | .len => some ("len", .fn "len")
  | .abs => some ("abs", .fn "abs")
  | .int1 => some ("int", .ty "int")
  | .tuple1 => some ("tuple", .ty "tuple")
  | .list1 => some ("list", .ty "list")
  | .sum => some ("sum", .fn "sum")
  | .all => some ("all", .fn "all")
  | .any => some ("any", .fn "any")
  | .str1 => some ("str", .ty "str")
  | .max1 => some ("max", .fn "max")
  | .min1 => some ("min", .fn "min")
  | .sorted1 => some ("sorted", .fn "sorted")
  | .strd => some ("str", .ty "str")
def Cl.val : Cl → Value
  | .fn id => .builtin id
  | .ty n => .type n
theorem boot_u {o : U} {x : Str} {c : Cl} (h : o.cl = some (x, c)) : bootBuiltins x = some c.val := by
  cases o <;> simp only [U.cl, Option.some.injEq, Prod.mk.injEq, reduceCtorEq] at h <;> obtain ⟨rfl, rfl⟩ := h <;> first | exact PySem.boot_len | decide +kernel
theorem cr_strD {X : Cx} (hg : X.A.guards = some []) (hu : X.A.units + 65 < cLine) : CallR X (.type "str") (fun vs H Q => ∃ a d, vs = [V.ref a] ∧ Dp X.K H (.ref a) d ∧ shOk d = true ∧ Q (.str d.shown) H) := by
  intro pins s σ H vs us Q I rv h
  obtain ⟨a, d, rfl, dp, ok, q⟩ := h
  rw [Vals.ref1 rv]
  obtain ⟨as, r⟩ := Dp.reads I d (.ref a) (.ref a) dp rfl
  simp only [shOk, Bool.and_eq_true, decide_eq_true_eq] at ok
  obtain ⟨⟨⟨⟨h1, h2⟩, h3⟩, h4⟩, h5⟩ := ok
  have hl : d.shown.length ≤ sizeLine := by
    have := PyData.shown_le_bulk 1921 (by decide) d h4
    rw [sizeLine_eq]
    omega
  exact str_of_reads r h1 (PyData.noDict_hsm (PyData.hasDict_of_canLay d h2)) hg (by omega) (fun _ _ e => e) (fun h' u tk hk => ⟨.str d.shown, H, I.kept hk, ⟨u, rfl⟩, q⟩) hl
theorem call_u {X : Cx} (hc : X.calm = true) {o : U} {x : Str} {c : Cl} (hgd : o = .strd → X.A.guards = some [] ∧ X.A.units + 65 < cLine) (h : o.cl = some (x, c)) : CallR X c.val (fun vs H Q => ∃ v, vs = [v] ∧ rU X.K o v H Q) := by
  have w : ∀ {f : Value} {r : List V → Hp → VK → Prop} {r' : V → Hp → VK → Prop}, CallR X f r → (∀ v H Q, r' v H Q → r [v] H Q) → CallR X f (fun vs H Q => ∃ v, vs = [v] ∧ r' v H Q) :=
    fun hr hi pins s σ H xs us Q I rv ⟨v, e, q⟩ => hr pins s σ H xs us Q I rv (by rw [e]; exact hi v H Q q)
  cases o <;> simp only [U.cl, Option.some.injEq, Prod.mk.injEq, reduceCtorEq] at h <;> obtain ⟨rfl, rfl⟩ := h
  · exact w (call_len_seq.or call_len_str) fun _ _ _ q => q
  · exact w call_abs fun _ _ _ q => q
  · exact w (call_int1.or call_int_str) fun _ _ _ q => q
  · exact w call_tuple_of fun _ _ _ q => q
  · exact w call_list_of fun _ _ _ q => q
  · exact w (cr_sum hc) fun _ _ _ q => q
  · exact w (cr_all hc) fun _ _ _ q => q
  · exact w (cr_any hc) fun _ _ _ q => q
  · exact w (call_str_int.or SkE.call_str_str) fun _ _ _ q => q
  · exact w ((cr_max hc).or (cr_maxT hc)) fun _ _ _ q => q
  · exact w ((cr_min hc).or (cr_minT hc)) fun _ _ _ q => q
  · exact w ((cr_sortedI.or cr_sortN).or cr_sortedS) fun _ _ _ q => q
  · exact w (cr_strD (hgd rfl).1 (hgd rfl).2) fun _ _ _ q => q

/-! ### expressions that are no starred ones, no comprehensions -/
def nsB : Expr → Bool
  | .Starred .. => false
  | _ => true
theorem star_ns {e : Expr} (h : nsB e = true) (es : List Expr) (env : Env) : starEach (e :: es) env = (false, eval e env) :: starEach es env := by
  cases e <;> first | rfl | cases h
theorem star_all : ∀ {es : List Expr} (h : es.all nsB = true) (env : Env) (pos : Pos), (backTo pos (starEach es env)).any (·.1) = false
  | [], _, _, _ => rfl
  | e :: es, h, env, pos => by
    rw [List.all_cons, Bool.and_eq_true] at h
    rw [star_ns h.1]
    show (false || (backTo pos (starEach es env)).any (·.1)) = false
    rw [star_all h.2]; rfl
def ncB : Expr → Bool
  | .ListComp .. => false
  | .SetComp .. => false
  | .DictComp .. => false
  | _ => true
theorem swaps_nc {e : Expr} (h : ncB e = true) (t : Option Expr) (l : Nat) (env : Env) : swapsWith e t l env = pure false := by
  cases e <;> first | rfl | cases h
def folB : Expr → Bool
  | .Set .. => false
  | _ => true
theorem fold_ns {e : Expr} (h : folB e = true) (env : Env) (x : Value) : foldedSetIterable e env x = pure x := by
  cases e <;> first | rfl | cases h
theorem fold_marks {e : Expr} (h : folB e = true) (op : CmpOp) : behindInMarks op e = false := by
  cases e <;> first | rfl | cases h
def ptB : Expr → Bool
  | .UnaryOp .Not _ _ => false
  | .BoolOp .. => false
  | .IfExp .. => false
  | .Compare .. => false
  | _ => true
theorem true_pt {e : Expr} (h : ptB e = true) (env : Env) (whole : Sem Value) : isTrue e env whole = (do let v ← whole; standAt e.pos; holding [v] (truthy v)) := by
  cases e <;> first
    | rfl
    | cases h
    | (rename_i op a p
       cases op <;> first | rfl | cases h)

section
variable {X : Cx} {k : Kx} {W : WX} {f g : En → R Sl}
/-- a built-in with one operand -/
theorem pe_u1 {o : U} {x : Str} {c : Cl} {e : Expr} {p pos : Pos} (hk : X.K = k.K) (hc : X.calm = true) (hgd : o = .strd → X.A.guards = some [] ∧ X.A.units + 65 < cLine) (hcl : o.cl = some (x, c)) (hg : Gl X x) (hm : X.mg x = none) (hn : nsB e = true) (h : PE X e (tE k W f)) :
    PE X (.Call (.Name x p) [e] [] pos) (tE k W fun ρ => (asP (f ρ)).bind (uSem o)) := by
  have ha : PA X [e] (tCons (tE k W f) tNil) := pa_cons h pa_nil (star_ns hn _ _)
  have s0 : (backTo pos (starEach ([] : List Expr) X.env)).any (·.1) = false := rfl
  have n1 : x ≠ "__name__" ∧ (x == ("__debug__" : Str)) = false := by
    cases o <;> simp only [U.cl, Option.some.injEq, Prod.mk.injEq, reduceCtorEq] at hcl <;> obtain ⟨rfl, rfl⟩ := hcl <;> exact ⟨by decide, by decide⟩
  have i : ∀ σ H Q, tE k W (fun ρ => (asP (f ρ)).bind (uSem o)) σ H Q → tCB (fun vs H Q => ∃ v, vs = [v] ∧ rU X.K o v H Q) (tCons (tE k W f) tNil) σ H Q := fun σ H Q q => by
    obtain ⟨S, ρ, st, q⟩ := imp_un (f := f) (W := W) (uOk k o) q
    refine ⟨S, ρ, st, q.mono (Same.refl _) fun s _ z v H' t r => ⟨v, rfl, ?_⟩⟩
    rw [hk]; exact z v H' t r
  cases c with
  | fn id => exact pe_imp (pe_callB (call_u hc hgd hcl) hg hm (boot_u hcl) ha n1.1 n1.2 (star_ns hn _ _) s0) i
  | ty n => exact pe_imp (pe_callTy (call_u hc hgd hcl) hg hm (boot_u hcl) ha n1.1 n1.2 (star_ns hn _ _) s0) i
theorem pe_neg {e : Expr} {pos : Pos} (h : PE X e (tE k W f)) : PE X (.UnaryOp .USub e pos) (tE k W fun ρ => (asP (f ρ)).bind (uSem .neg)) :=
  pe_imp (pe_un (r := L2.rU fun i => .int (-i)) un_neg h) fun _ _ _ q => imp_un (uOk k .neg) q
theorem pe_b2 {o : B} {op : Operator} {a c : Expr} {pos : Pos} (hk : X.K = k.K) (e : o.bin = some op) (h1 : PE X a (tE k W f)) (h2 : PE X c (tE k W g)) : PE X (.BinOp a op c pos) (tE k W fun ρ => (asP (f ρ)).bind fun x => (asP (g ρ)).bind (bSem o x)) :=
  pe_imp (pe_op (opR_bin o op e) h1 h2) fun _ _ _ q => by rw [hk]; exact imp_op (bOk k o) q
theorem pe_c2 {o : B} {op : CmpOp} {a c : Expr} {pos : Pos} (hk : X.K = k.K) (hu : X.A.units + 65 < cLine) (e : o.cmp = some op) (hm : behindInMarks op c = false) (h1 : PE X a (tE k W f)) (h2 : PE X c (tE k W g)) :
    PE X (.Compare a [op] [c] pos) (tE k W fun ρ => (asP (f ρ)).bind fun x => (asP (g ρ)).bind (bSem o x)) :=
  pe_imp (pe_cmpR (opR_cmp hu o op e) h1 h2 hm) fun _ _ _ q => by rw [hk]; exact imp_op (bOk k o) q
/-- as a test -/
theorem imp_test {t : TE} {f : En → R Sl} (hi : ∀ σ H Q, tE k W f σ H Q → t σ H Q) {σ : St} {H : Hp} {Q : Bool → Hp → Prop} (q : tT k W (fun ρ => asB (f ρ)) σ H Q) : t σ H fun x H' => ∃ c, x = .bl c ∧ Q c H' := by
  obtain ⟨S, ρ, st, q⟩ := q
  refine hi σ H _ ⟨S, ρ, st, (tR.asB q).mono (Same.refl _) fun s _ z v H' t r => ?_⟩
  obtain ⟨b, rfl, z⟩ := z
  exact ⟨b, r.bl, z H' t⟩
theorem pt_c2 {o : B} {op : CmpOp} {a c : Expr} {pos : Pos} (hk : X.K = k.K) (hu : X.A.units + 65 < cLine) (e : o.cmp = some op) (hm : behindInMarks op c = false) (h1 : PE X a (tE k W f)) (h2 : PE X c (tE k W g)) :
    PT X (.Compare a [op] [c] pos) (tT k W fun ρ => asB ((asP (f ρ)).bind fun x => (asP (g ρ)).bind (bSem o x))) :=
  pt_imp (pt_cmpR (opR_cmp hu o op e) h1 h2 hm) fun _ _ _ q => imp_test (fun _ _ _ q => by rw [hk]; exact imp_op (bOk k o) q) q
theorem pt_of {e : Expr} (hp : ptB e = true) (h : PE X e (tE k W f)) : PT X e (tT k W fun ρ => asB (f ρ)) :=
  pt_imp (pt_val h fun whole => true_pt hp X.env whole) fun _ _ _ q => imp_test (fun _ _ _ q => q) q

/-! ### slices -/
def tPo (k : Kx) (W : WX) (f : En → R (Option Int)) : TO := fun σ H Q => ∃ S ρ, StOk k S ρ σ H ∧ tR k W σ H (f ρ) fun o => ∀ H', Same H H' → Q o H'
theorem po_imp {e : Option Expr} {t t' : TO} (h : PO X e t) (i : ∀ σ H Q, t' σ H Q → t σ H Q) : PO X e t' := ⟨fun pins s σ H Q I q => h.run pins s σ H Q I (i σ H Q q)⟩
theorem po_no : PO X none (tPo k W fun _ => .ok none) := po_imp po_none fun σ H Q ⟨_, _, _, q⟩ => q H (Same.refl H)
theorem po_yes {e : Expr} (h : PE X e (tE k W f)) : PO X (some e) (tPo k W fun ρ => (asI (f ρ)).bind fun i => .ok (some i)) := po_imp (po_some h) fun σ H Q ⟨S, ρ, st, q⟩ => by
  refine ⟨S, ρ, st, (tR.asI q.bind).mono (Same.refl _) fun s _ z v H' t r => ?_⟩
  obtain ⟨i, rfl, z⟩ := z
  exact ⟨i, r.int, z H' t⟩
def rSl2 (K : PySem.W.Frag) : V → Option Int → Option Int → Hp → VK → Prop := fun x lo hi H Q => rSlL K x lo hi H Q ∨ rSlA K x lo hi H Q
theorem cut_whole {α : Type} {l : List α} {lo hi : Option Int} (h : HT.sIx l.length 0 lo = 0 ∧ HT.sIx l.length l.length hi = l.length) : (l.drop (HT.sIx l.length 0 lo)).take (HT.sIx l.length l.length hi - HT.sIx l.length 0 lo) = l := by
  rw [h.1, h.2, List.drop_zero, Nat.sub_zero, List.take_length]
theorem pe_slc {a : Expr} {lo hi : Option Expr} {fl fh : En → R (Option Int)} {p2 pos : Pos} (hk : X.K = k.K) (h : PE X a (tE k W f)) (h1 : PO X lo (tPo k W fl)) (h2 : PO X hi (tPo k W fh)) :
    PE X (.Subscript a (.Slice lo hi none p2) pos) (tE k W fun ρ => (asP (f ρ)).bind fun x => (fl ρ).bind fun i => (fh ρ).bind fun j => slS x i j) := by
  refine pe_imp (pe_slice ((sl_list.or sl_tupA).or sl_str) h h1 h2) fun σ H Q ⟨S, ρ, st, q⟩ => ?_
  refine tE.data st (q.bind.mono (Same.refl _) fun x _ q v H1 t1 r1 => ?_)
  refine ⟨S, ρ, st.mono t1, q.bind.mono t1 fun i _ q H2 t2 => ?_⟩
  refine ⟨S, ρ, (st.mono t1).mono t2, q.bind.mono (t1.trans t2) fun j _ q H3 t3 => ?_⟩
  have st3 := ((st.mono t1).mono t2).mono t3
  have r3 : Rep k (reg S ρ σ H3) x v := Rep.mono (part_mono (t2.trans t3) fun _ _ _ z => z) r1
  have tt := (t1.trans t2).trans t3
  have le : Same (reg S ρ σ H3) H3 := part_le
  have fr : ∀ a, H3 a = none → regP S ρ σ a := fun a n => st3.fresh n
  rw [hk]
  cases x <;> simp only [slS] at q <;> try exact q.elim
  · split at q
    · rename_i z
      exact .inr ⟨_, r3.ofStr, z, q _ _ tt (ResOk.back tt ResOk.flatS)⟩
    · exact q.elim
  · obtain ⟨b, vs, rfl, h1, rr⟩ := r3.ofTup
    refine .inl (.inr ⟨b, vs, rfl, sqT_mono le h1, fun z => ?_, fun _ p n => ?_⟩)
    · refine q _ _ tt (ResOk.back tt ?_)
      show Rep k _ (.tup (cutP _ _ _)) _
      rw [rr.length] at z
      unfold cutP
      rw [cut_whole z]
      exact r3
    · exact q _ _ (tt.trans (same_new n)) ((ResOk.newT fr n (rr.cut i j)).back tt)
  · obtain ⟨b, vs, rfl, h1, rr⟩ := r3.ofLst
    exact .inl (.inl ⟨b, vs, rfl, (h1.mono le).sql, fun p n => q _ _ (tt.trans (same_new n)) ((ResOk.newL n (rr.cut i j)).back tt)⟩)
theorem pe_rev {a : Expr} {c : Nat} {p1 p2 p3 pos : Pos} (hk : X.K = k.K) (h : PE X a (tE k W f)) :
    PE X (.Subscript a (.Slice none none (some (.UnaryOp .USub (.Constant (.int 1) c p1) p2)) p3) pos) (tE k W fun ρ => (asP (f ρ)).bind fun x => match x with
      | .lst xs => .ok (.l xs.reverse)
      | .tup xs => .ok (.v (.tup xs.reverse))
      | _ => .st) := by
  refine pe_imp (pe_revA h) fun σ H Q ⟨S, ρ, st, q⟩ => ?_
  refine tE.data st (q.bind.mono (Same.refl _) fun x _ q v H1 t1 r1 => ?_)
  have st1 := st.mono t1
  have fr : ∀ a, H1 a = none → regP S ρ σ a := fun a n => st1.fresh n
  rw [hk]
  cases x <;> try exact False.elim q
  · obtain ⟨b, vs, rfl, h1, rr⟩ := r1.ofTup
    exact ⟨b, vs, rfl, .inr ⟨sqT_mono part_le h1, fun p n => q _ _ (t1.trans (same_new n)) ((ResOk.newT fr n rr.reverse).back t1)⟩⟩
  · obtain ⟨b, vs, rfl, h1, rr⟩ := r1.ofLst
    exact ⟨b, vs, rfl, .inl ⟨(h1.mono part_le).sql, fun p n => q _ _ (t1.trans (same_new n)) ((ResOk.newL n rr.reverse).back t1)⟩⟩
theorem pe_rep {a c : Expr} {pos : Pos} (h1 : PE X a (tE k W f)) (h2 : PE X c (tE k W g)) : PE X (.BinOp a .Mult c pos) (tE k W fun ρ => (f ρ).bind fun s => (asI (g ρ)).bind fun n => match s with
    | .l xs => if -(2 ^ 63) ≤ n ∧ n < 2 ^ 63 ∧ xs.length * n.toNat ≤ sizeLine then .ok (.l (List.replicate n.toNat xs).flatten) else .st
    | _ => .st) := by
  refine pe_imp (pe_op op_rep h1 h2) fun σ H Q ⟨S, ρ, st, q⟩ => ?_
  refine ⟨S, ρ, st, q.bind.mono (Same.refl _) fun s _ q v H1 t1 r1 => ?_⟩
  refine ⟨S, ρ, st.mono t1, (tR.asI q.bind).mono t1 fun s2 _ z u H2 t2 r2 => ?_⟩
  obtain ⟨n, rfl, q⟩ := z
  match s, q, r1 with
  | .v d, q, _ => exact False.elim q
  | .k _ d, q, _ => exact False.elim q
  | .l xs, q, r1 =>
    have q : tR k W σ H (if -(2 ^ 63) ≤ n ∧ n < 2 ^ 63 ∧ xs.length * n.toNat ≤ sizeLine then R.ok (Sl.l (List.replicate n.toNat xs).flatten) else R.st) _ := q
    by_cases hz : -(2 ^ 63) ≤ n ∧ n < 2 ^ 63 ∧ xs.length * n.toNat ≤ sizeLine
    · rw [if_pos hz] at q
      obtain ⟨b, vs, rfl, n1, e1, rr⟩ := r1
      have st2 := (st.mono t1).mono t2
      have rr2 : Reps k (reg S ρ σ H2) xs vs := Reps.mono (part_mono t2 fun _ _ _ z => z.1) rr
      refine ⟨b, n, vs, rfl, r2.int, t2 _ _ e1, hz.1, hz.2.1, by rw [rr2.length]; exact hz.2.2, fun p np => ?_⟩
      exact q _ _ ((t1.trans t2).trans (same_new np)) ((ResOk.newL np (rr2.flatRep _)).back (t1.trans t2))
    · rw [if_neg hz] at q
      exact q.elim
end

/-! ### what is walked -/
section
variable {X : Cx} {k : Kx} {W : WX} {f g : En → R Sl} {tg : Expr}
theorem goes_list {G : Hp} {ds : List PD} {vs : List V} {a : Addr} (h : Ls k.K G a vs) (r : Reps k G ds vs) : Goes k (Itl k.K a) G ds := fun i G2 H2 t u => by
  have q : SqL k.K H2 a vs := (h.mono (t.trans u)).sql
  refine ⟨fun d e => ?_, fun l => ⟨vs, q, by rw [r.length]; exact l⟩⟩
  obtain ⟨v, e1, r1⟩ := r.get e
  refine ⟨⟨vs, v, q, e1⟩, fun x H3 y => .inl ⟨y.1, ?_⟩⟩
  have := y.2 vs q
  rw [e1] at this; cases this
  exact Rep.mono t r1
theorem goes_tup {G : Hp} {ds : List PD} {vs : List V} {a : Addr} (h : SqT k.K G a vs) (r : Reps k G ds vs) : Goes k (Itt k.K a) G ds := fun i G2 H2 t u => by
  have q : SqT k.K H2 a vs := sqT_mono (t.trans u) h
  refine ⟨fun d e => ?_, fun l => ⟨vs, q, by rw [r.length]; exact l⟩⟩
  obtain ⟨v, e1, r1⟩ := r.get e
  refine ⟨⟨vs, v, q, e1⟩, fun x H3 y => .inl ⟨y.1, ?_⟩⟩
  have := y.2 vs q
  rw [e1] at this; cases this
  exact Rep.mono t r1
/-- a list or a tuple, whichever it is -/
def iLT (K : PySem.W.Frag) (te : TE) : TI := fun σ H Rr => te σ H fun x H1 => (∃ a, x = .ref a ∧ (((∃ xs, SqL K H1 a xs) ∧ Rr (Itl K a) H1) ∨ ((∃ xs, SqT K H1 a xs) ∧ Rr (Itt K a) H1))) ∨ ∃ z, x = .str z ∧ Rr (Its z) H1
theorem pi_lt {e : Expr} {te : TE} (h : PE X e te) : PI X tg e (iLT X.K te) := by
  refine ⟨fun pins s σ H Rr I q => thn (h.run pins s σ H _ I q) fun u s2 ⟨x, H2, J, rel, alt⟩ => ?_⟩
  rcases alt with ⟨a, ex, alt⟩ | ⟨x', ex, fin⟩
  rotate_left
  · subst ex
    obtain ⟨t, rfl⟩ := rel
    cases ha : x'.cps.all (· < 128)
    · exact wpAny_pyIter_wide ha (pi_one (tk := s2.toks) J _ (turn_str _ x' t "str_iterator" (.inr rfl)) ⟨_, Heap.get?_push_size _ rfl, rfl, rfl⟩ fin)
    · exact wpAny_pyIter_ascii ha (pi_one (tk := s2.toks) J _ (turn_str _ x' t "str_ascii_iterator" (.inl rfl)) ⟨_, Heap.get?_push_size _ rfl, rfl, rfl⟩ fin)
  subst ex
  cases rel
  have mine : ∀ b ∈ [s2.heap.objs.size], FpOk X pins H2 b := fun b hb => by
    rw [List.mem_singleton] at hb
    rw [hb]
    exact J.fpOk (Nat.le_refl _) (J.hok.fresh (Nat.le_refl _))
  rcases alt with ⟨⟨xs, hx⟩, fin⟩ | ⟨⟨xs, hx⟩, fin⟩
  · obtain ⟨its, _, p, _⟩ := J.list hx
    exact wpAny_pyIter_list p.isList ⟨_, _, _, _, H2, rfl, J.kept (t' := s2.toks) fun _ _ z => Heap.get?_push_of_some _ z, turn_list a _, ⟨_, Heap.get?_push_size _ rfl, rfl, rfl⟩, mine, fin⟩
  · obtain ⟨its, _, p, _⟩ := J.tuple hx
    exact wpAny_pyIter_tuple (items := its.toArray) p ⟨_, _, _, _, H2, rfl, J.kept (t' := s2.toks) fun _ _ z => Heap.get?_push_of_some _ z, turn_tuple a _, ⟨_, Heap.get?_push_size _ rfl, rfl, rfl⟩, mine, fin⟩
theorem goes_str {G : Hp} {x : Str} : Goes k (Its x) G (x.cps.toList.map fun c => .str ⟨#[c]⟩) := fun i G2 H2 _ _ => by
  refine ⟨fun d e => ?_, fun l => by
    rw [List.length_map, Array.length_toList] at l
    exact l⟩
  rw [List.getElem?_map] at e
  cases ec : x.cps.toList[i]? with
  | none => rw [ec] at e; cases e
  | some c =>
    rw [ec] at e
    cases e
    have ec' : x.cps[i]? = some c := by rw [← Array.getElem?_toList]; exact ec
    refine ⟨(Array.getElem?_eq_some_iff.mp ec').1, fun y H3 z => .inl ⟨z.1, ?_⟩⟩
    obtain ⟨_, c', e1, rfl⟩ := z
    rw [ec'] at e1
    cases e1
    exact Rep.str
theorem pi_seq {e : Expr} (hk : X.K = k.K) (h : PE X e (tE k W f)) : PI X tg e (tI k W fun ρ => (asP (f ρ)).bind toSeq) := by
  refine pi_imp (pi_lt h) fun σ H Rr ⟨S, ρ, st, q⟩ => ?_
  rw [hk]
  refine ⟨S, ρ, st, (tR.asP q.bind).mono (Same.refl _) fun s es z v H' t r => ?_⟩
  have rr := r.pd fun a n => st.fresh n
  cases e2 : s.pd with
  | lst xs =>
    rw [e2] at rr z
    obtain ⟨a, vs, rfl, h1, r1⟩ := rr.ofLst
    exact .inl ⟨a, rfl, .inl ⟨⟨vs, (h1.mono part_le).sql⟩, z _ _ t (goes_list h1 r1)⟩⟩
  | tup xs =>
    rw [e2] at rr z
    obtain ⟨a, vs, rfl, h1, r1⟩ := rr.ofTup
    exact .inl ⟨a, rfl, .inr ⟨⟨vs, sqT_mono part_le h1⟩, z _ _ t (goes_tup h1 r1)⟩⟩
  | str x =>
    rw [e2] at rr z
    exact .inr ⟨x, rr.ofStr, z _ _ t goes_str⟩
  | _ => rw [e2] at z; exact False.elim z
theorem goes_range {G : Hp} {lo : Int} {n : Nat} : Goes k (Itr lo n) G ((List.range n).map fun (i : Nat) => .int (lo + i)) := fun i G2 H2 _ _ => by
  refine ⟨fun d e => ?_, fun l => show n ≤ i by simpa using l⟩
  rw [List.getElem?_map] at e
  by_cases hi : i < n
  · rw [List.getElem?_range hi] at e
    cases e
    refine ⟨hi, fun x H3 y => .inl ⟨y.1, ?_⟩⟩
    rw [y.2]; exact Rep.int
  · rw [List.getElem?_eq_none (by simpa using hi)] at e; cases e
theorem goes_rangeC {G : Hp} {lo c : Int} {n : Nat} : Goes k (Itc lo c n) G (rngStep lo n c) := fun i G2 H2 _ _ => by
  unfold rngStep
  refine ⟨fun d e => ?_, fun l => show n ≤ i by simpa using l⟩
  rw [List.getElem?_map] at e
  by_cases hi : i < n
  · rw [List.getElem?_range hi] at e
    cases e
    refine ⟨hi, fun x H3 y => .inl ⟨y.1, ?_⟩⟩
    rw [y.2]; exact Rep.int
  · rw [List.getElem?_eq_none (by simpa using hi)] at e; cases e
theorem reps1 {G : Hp} {d : PD} {vs : List V} (h : Reps k G [d] vs) : ∃ v, vs = [v] ∧ Rep k G d v := by
  obtain ⟨v, ws, rfl, q, r⟩ := Reps.cons_iff.mp h
  rw [Reps.nil_iff.mp r]
  exact ⟨v, rfl, q⟩
theorem reps2 {G : Hp} {d d' : PD} {vs : List V} (h : Reps k G [d, d'] vs) : ∃ v w, vs = [v, w] ∧ Rep k G d v ∧ Rep k G d' w := by
  obtain ⟨v, ws, rfl, q, r⟩ := Reps.cons_iff.mp h
  obtain ⟨w, rfl, q'⟩ := reps1 r
  exact ⟨v, w, rfl, q, q'⟩
theorem reps3 {G : Hp} {d d' d'' : PD} {vs : List V} (h : Reps k G [d, d', d''] vs) : ∃ v w x, vs = [v, w, x] ∧ Rep k G d v ∧ Rep k G d' w ∧ Rep k G d'' x := by
  obtain ⟨v, ws, rfl, q, r⟩ := Reps.cons_iff.mp h
  obtain ⟨w, x, rfl, q', q''⟩ := reps2 r
  exact ⟨v, w, x, rfl, q, q', q''⟩
variable {fs : En → R (List PD)} {p pos : Pos}
theorem pi_rng1 {a : Expr} (hg : Gl X "range") (hm : X.mg "range" = none) (n1 : nsB a = true) (h : PA X [a] (tA k W fs)) (hl : ∀ ρ ds, (fs ρ).Leaf ds → ds.length = 1) : PI X tg (.Call (.Name "range" p) [a] [] pos) (tI k W fun ρ => (fs ρ).bind rngS) := by
  refine pi_imp (pi_range1 hg hm h (by rw [star_ns n1]; rfl)) fun σ H Rr ⟨S, ρ, st, q⟩ => ?_
  refine ⟨S, ρ, st, q.bind.mono (Same.refl _) fun ds e q vs H' t r => ?_⟩
  have hl := hl ρ ds e
  match ds, hl, q, r with
  | [.non], _, q, _ => exact False.elim q
  | [.bl _], _, q, _ => exact False.elim q
  | [.str _], _, q, _ => exact False.elim q
  | [.tup _], _, q, _ => exact False.elim q
  | [.lst _], _, q, _ => exact False.elim q
  | [.dct _], _, q, _ => exact False.elim q
  | [.exn _], _, q, _ => exact False.elim q
  | [.pot], _, q, _ => exact False.elim q
  | [.int j], _, q, r =>
    obtain ⟨v, rfl, rv⟩ := reps1 r
    have q : tR k W σ H (if smallI j then R.ok (rngItems 0 j) else R.st) _ := q
    by_cases hs : smallI j
    · rw [if_pos hs] at q
      refine ⟨j, by rw [rv.ofInt], hs.1, hs.2, q _ _ t ?_⟩
      have : rngItems 0 j = (List.range j.toNat).map fun (i : Nat) => PD.int (0 + i) := by unfold rngItems; rw [Int.sub_zero]
      rw [this]
      exact goes_range
    · rw [if_neg hs] at q; exact q.elim
theorem pi_rng2 {a b : Expr} (hg : Gl X "range") (hm : X.mg "range" = none) (n1 : nsB a = true) (n2 : nsB b = true) (h : PA X [a, b] (tA k W fs)) (hl : ∀ ρ ds, (fs ρ).Leaf ds → ds.length = 2) : PI X tg (.Call (.Name "range" p) [a, b] [] pos) (tI k W fun ρ => (fs ρ).bind rngS) := by
  refine pi_imp (pi_range2 hg hm h (by rw [star_ns n1, star_ns n2]; rfl) (by rw [star_ns n2]; rfl)) fun σ H Rr ⟨S, ρ, st, q⟩ => ?_
  refine ⟨S, ρ, st, q.bind.mono (Same.refl _) fun ds e q vs H' t r => ?_⟩
  have hl := hl ρ ds e
  match ds, hl with
  | [d, d'], _ =>
    obtain ⟨v, w, rfl, rv, rw'⟩ := reps2 r
    have two : ∃ i j, d = .int i ∧ d' = .int j := by
      cases d <;> cases d' <;> first | exact False.elim q | exact ⟨_, _, rfl, rfl⟩
    obtain ⟨i, j, rfl, rfl⟩ := two
    have q : tR k W σ H (if smallI i ∧ smallI j then R.ok (rngItems i j) else R.st) _ := q
    by_cases hs : smallI i ∧ smallI j
    · rw [if_pos hs] at q
      exact ⟨i, j, by rw [rv.ofInt, rw'.ofInt], ⟨hs.1.1, hs.1.2, hs.2.1, hs.2.2⟩, q _ _ t goes_range⟩
    · rw [if_neg hs] at q; exact q.elim
theorem pi_rng3 {a b c : Expr} (hg : Gl X "range") (hm : X.mg "range" = none) (n1 : nsB a = true) (n2 : nsB b = true) (n3 : nsB c = true) (h : PA X [a, b, c] (tA k W fs)) (hl : ∀ ρ ds, (fs ρ).Leaf ds → ds.length = 3) : PI X tg (.Call (.Name "range" p) [a, b, c] [] pos) (tI k W fun ρ => (fs ρ).bind rngS) := by
  refine pi_imp (pi_range3 hg hm h (star_ns n1 _ _) (by rw [star_ns n2, star_ns n3]; rfl)) fun σ H Rr ⟨S, ρ, st, q⟩ => ?_
  refine ⟨S, ρ, st, q.bind.mono (Same.refl _) fun ds e q vs H' t r => ?_⟩
  have hl := hl ρ ds e
  match ds, hl with
  | [d, d', d''], _ =>
    obtain ⟨v, w, x, rfl, rv, rw', rx⟩ := reps3 r
    have q2 : tR k W σ H (rngS [d, d', d'']) _ := q
    clear q
    unfold rngS at q2
    split at q2 <;> try exact False.elim q2
    · rename_i heq; cases heq
    · rename_i heq; cases heq
    · rename_i i' j' heq
      cases heq
      by_cases hs : smallI i' ∧ smallI j'
      · rw [if_pos hs] at q2
        exact ⟨i', j', -1, _, by rw [rv.ofInt, rw'.ofInt, rx.ofInt], RgC.neg hs.1.1 hs.1.2 hs.2.1 hs.2.2, q2 _ _ t goes_rangeC⟩
      · rw [if_neg hs] at q2; exact q2.elim
theorem enumGo_get : ∀ {xs : List PD} {n i : Nat} {d : PD}, (enumGo n xs)[i]? = some d → ∃ x, xs[i]? = some x ∧ d = .tup [.int (n + i : Nat), x]
  | [], _, _, _, h => by simp [enumGo] at h
  | x :: xs, n, 0, d, h => by
    simp [enumGo] at h
    exact ⟨x, rfl, by rw [← h]; simp⟩
  | x :: xs, n, i + 1, d, h => by
    simp [enumGo] at h
    obtain ⟨y, e1, e2⟩ := enumGo_get h
    exact ⟨y, by simpa using e1, by rw [e2]; simp; omega⟩
theorem enumGo_len : ∀ (xs : List PD) (n : Nat), (enumGo n xs).length = xs.length
  | [], _ => rfl
  | x :: xs, n => by simp [enumGo, enumGo_len xs]
theorem pi_enm {a : Expr} {elts : List Expr} {kk : Nat} {tpos : Pos} (hk : X.K = k.K) (hg : Gl X "enumerate") (hm : X.mg "enumerate" = none) (n1 : nsB a = true) (h : PE X a (tE k W f)) :
    PI X (.Tuple elts kk tpos) (.Call (.Name "enumerate" p) [a] [] pos) (tI k W fun ρ => (asP (f ρ)).bind enumS) := by
  have ha : PA X [a] (tCons (tE k W f) tNil) := pa_cons h pa_nil (star_ns n1 _ _)
  refine pi_imp (pi_enum hg hm ha (by rw [star_ns n1]; rfl)) fun σ H Rr ⟨S, ρ, st, q⟩ => ?_
  refine tE.data st (q.bind.mono (Same.refl _) fun x _ q v H' t r => ?_)
  show ∃ a xs, _
  cases x <;> try exact False.elim q
  obtain ⟨b, vs, rfl, h1, r1⟩ := r.ofLst
  rw [hk]
  refine ⟨b, vs, rfl, (h1.mono part_le).sql, ?_⟩
  refine q _ _ t fun i G2 H2 t2 u2 => ⟨fun d e => ?_, fun l => ⟨vs, (h1.mono (t2.trans u2)).sql, ?_⟩⟩
  · obtain ⟨y, e1, e2⟩ := enumGo_get e
    obtain ⟨w, e3, r3⟩ := r1.get e1
    have q2 : SqL k.K H2 b vs := (h1.mono (t2.trans u2)).sql
    refine ⟨⟨vs, w, q2, e3⟩, fun x H3 y => ?_⟩
    obtain ⟨T, z, ex, nT, eH, hz⟩ := y
    have e4 := hz vs q2
    rw [e3] at e4; cases e4
    refine .inr ⟨T, _, _, nT, eH, ex, e2, Reps.cons ?_ (Reps.cons (Rep.mono t2 r3) Reps.nil)⟩
    rw [Nat.zero_add]; exact Rep.int
  · rw [enumGo_len] at l
    rw [r1.length]; exact l
theorem zip_get : ∀ {xs ys : List PD} {i : Nat} {d : PD}, (zipP xs ys)[i]? = some d → ∃ x y, xs[i]? = some x ∧ ys[i]? = some y ∧ d = .tup [x, y]
  | [], _, _, _, h => by simp [zipP] at h
  | _ :: _, [], _, _, h => by simp [zipP] at h
  | x :: xs, y :: ys, 0, d, h => by
    simp [zipP] at h
    exact ⟨x, y, rfl, rfl, h.symm⟩
  | x :: xs, y :: ys, i + 1, d, h => by
    obtain ⟨a, b, e1, e2, e3⟩ := zip_get (xs := xs) (ys := ys) (i := i) (d := d) (by simpa [zipP] using h)
    exact ⟨a, b, by simpa using e1, by simpa using e2, e3⟩
theorem zip_len (xs ys : List PD) : (zipP xs ys).length = min xs.length ys.length := by simp [zipP]
theorem pi_zp {a c : Expr} {elts : List Expr} {kk : Nat} {tpos : Pos} (hk : X.K = k.K) (hg : Gl X "zip") (hm : X.mg "zip" = none) (n1 : nsB a = true) (n2 : nsB c = true) (h1 : PE X a (tE k W f)) (h2 : PE X c (tE k W g)) :
    PI X (.Tuple elts kk tpos) (.Call (.Name "zip" p) [a, c] [] pos) (tI k W fun ρ => (asP (f ρ)).bind fun x => (asP (g ρ)).bind (zipS x)) := by
  have ha : PA X [a, c] (tCons (tE k W f) (tCons (tE k W g) tNil)) := pa_cons h1 (pa_cons h2 pa_nil (star_ns n2 _ _)) (star_ns n1 _ _)
  refine pi_imp (RZ.pi_zipA hg hm ha (star_ns n1 _ _) (by rw [star_ns n2]; rfl)) fun σ H Rr ⟨S, ρ, st, q⟩ => ?_
  refine tE.data st (q.bind.mono (Same.refl _) fun x _ q v H1 t1 r1 => ?_)
  refine tE.data (st.mono t1) (q.bind.mono t1 fun y _ q u H2 t2 r2 => ?_)
  have r1' : Rep k (reg S ρ σ H2) x v := Rep.mono (part_mono t2 fun _ _ _ z => z) r1
  have tt := t1.trans t2
  show ∃ a b xs ys, _
  rw [hk]
  cases x <;> cases y <;> try exact False.elim q
  · obtain ⟨b, vs, rfl, e1, s1⟩ := r1'.ofTup
    obtain ⟨b', ws, rfl, e2, s2⟩ := r2.ofTup
    refine ⟨b, b', vs, ws, rfl, .inr ⟨sqT_mono part_le e1, sqT_mono part_le e2, q _ _ tt fun i G3 H3 t3 u3 => ?_⟩⟩
    have q1 : SqT k.K H3 b vs := sqT_mono (t3.trans u3) e1
    have q2 : SqT k.K H3 b' ws := sqT_mono (t3.trans u3) e2
    refine ⟨fun d e => ?_, fun l => ⟨vs, ws, q1, q2, ?_⟩⟩
    · obtain ⟨x, y, ex, ey, ed⟩ := zip_get e
      obtain ⟨z1, f1, g1⟩ := s1.get ex
      obtain ⟨z2, f2, g2⟩ := s2.get ey
      refine ⟨⟨vs, ws, z1, z2, q1, q2, f1, f2⟩, fun x' H4 y' => ?_⟩
      obtain ⟨T, a1, a2, ea, nT, eH, m1, m2⟩ := y'
      have n1 := m1 vs q1
      have n2 := m2 ws q2
      rw [f1] at n1; cases n1
      rw [f2] at n2; cases n2
      exact .inr ⟨T, _, _, nT, eH, ea, ed, Reps.cons (Rep.mono t3 g1) (Reps.cons (Rep.mono t3 g2) Reps.nil)⟩
    · rw [zip_len] at l
      rw [s1.length, s2.length]; omega
  · obtain ⟨b, vs, rfl, e1, s1⟩ := r1'.ofLst
    obtain ⟨b', ws, rfl, e2, s2⟩ := r2.ofLst
    refine ⟨b, b', vs, ws, rfl, .inl ⟨(e1.mono part_le).sql, (e2.mono part_le).sql, q _ _ tt fun i G3 H3 t3 u3 => ?_⟩⟩
    have q1 : SqL k.K H3 b vs := (e1.mono (t3.trans u3)).sql
    have q2 : SqL k.K H3 b' ws := (e2.mono (t3.trans u3)).sql
    refine ⟨fun d e => ?_, fun l => ⟨vs, ws, q1, q2, ?_⟩⟩
    · obtain ⟨x, y, ex, ey, ed⟩ := zip_get e
      obtain ⟨z1, f1, g1⟩ := s1.get ex
      obtain ⟨z2, f2, g2⟩ := s2.get ey
      refine ⟨⟨vs, ws, z1, z2, q1, q2, f1, f2⟩, fun x' H4 y' => ?_⟩
      obtain ⟨T, a1, a2, ea, nT, eH, m1, m2⟩ := y'
      have n1 := m1 vs q1
      have n2 := m2 ws q2
      rw [f1] at n1; cases n1
      rw [f2] at n2; cases n2
      exact .inr ⟨T, _, _, nT, eH, ea, ed, Reps.cons (Rep.mono t3 g1) (Reps.cons (Rep.mono t3 g2) Reps.nil)⟩
    · rw [zip_len] at l
      rw [s1.length, s2.length]; omega
end
end FS

set_option maxRecDepth 100000
set_option autoImplicit false
set_option maxHeartbeats 1000000
/-! A list that is known by a word alone: read and written behind it. -/
namespace FS
open PySem PySem.Spec L2
section
variable {X : Cx} {P : List Int → Prop} {a : Addr} {pins : List (Addr × Obj)} {σ : St} {H : Hp} {s : Shared}
/-- what such a list holds just now, shown as a list -/
theorem pot_open (I : Inv X pins σ H s) (h : H a = some (POT P a)) : ∃ ns : List Int, P ns ∧ ns.length ≤ 9 ∧ Inv X pins σ (upd H a (.lst (ns.map V.int))) s := by
  have q : ObjOk X.prog X.w H s.heap a (POT P a) := I.hok a _ h
  obtain ⟨⟨ns, its, n, hp, hl, r, e⟩, _, _⟩ := q
  have hz : (ns.map V.int).length ≤ sizeLine := by rw [List.length_map, sizeLine_eq]; omega
  have mu : Mut (H a) := by rw [h]; exact True.intro
  exact ⟨ns, hp, hl, I.write (x := a) (e := a) (o := .lst (ns.map V.int)) (h' := s.heap) (t' := s.toks) mu (.inl rfl) (fun _ _ _ z => z) ⟨_, e⟩ ⟨hz, its, n, r, e⟩⟩
/-- shown by the word again -/
theorem pot_close {ns : List Int} {H' : Hp} (I : Inv X pins σ H' s) (h : H' a = some (.lst (ns.map V.int))) (hp : P ns) (hl : ns.length ≤ 9) : Inv X pins σ (upd H' a (POT P a)) s := by
  obtain ⟨z, its, n, r, e⟩ := I.hok a _ h
  have mu : Mut (H' a) := by rw [h]; exact True.intro
  refine I.write (x := a) (e := a) (o := POT P a) (h' := s.heap) (t' := s.toks) mu (.inl rfl) (fun _ _ _ z => z) ⟨_, e⟩ ?_
  exact ⟨⟨ns, its, n, hp, hl, r, e⟩, ⟨_, e⟩, fun h1 h2 ⟨ns', its', n', p', l', r', e'⟩ k => ⟨ns', its', n', p', l', r', k _ e'⟩⟩
theorem upd_back {H : Hp} {a : Addr} {o u : HO} (h : H a = some o) : upd (upd H a u) a o = H := by
  funext b
  by_cases hb : b = a
  · subst hb; rw [upd_same, h]
  · rw [upd_ne hb, upd_ne hb]
/-- one number of it: any that its range allows -/
def rPg (P : List Int → Prop) (ok : Int → Prop) : R2 := fun x y H Q => ∃ a j, x = .ref a ∧ y = .int j ∧ H a = some (POT P a) ∧ (∀ ns, P ns → ∃ n, atI (ns.map V.int) j = some (.int n) ∧ ok n) ∧ ∀ n, ok n → Q (.int n) H
theorem ix_pot {ok : Int → Prop} : IxR X (rPg P ok) := by
  intro value slice pins s σ H x y v u Q I rx ry h hs
  obtain ⟨a, j, rfl, rfl, hp, hat, q⟩ := h
  obtain ⟨ns, pn, ln, I1⟩ := pot_open I hp
  obtain ⟨n, e, r⟩ := hat ns pn
  refine thn (ix_list value slice pins s σ _ (.ref a) (.int j) v u (fun z H' => z = .int n ∧ H' = upd H a (.lst (ns.map V.int))) I1 rx ry ⟨a, _, j, .int n, rfl, rfl, .inl (.inl upd_same), e, rfl, rfl⟩ hs) fun w s' ⟨z, H', I', rz, e1, e2⟩ => ?_
  subst e1 e2
  have I2 := pot_close I' upd_same pn ln
  rw [upd_back hp] at I2
  exact ⟨.int n, H, I2, rz, q n r⟩
/-- another number put into it, such that the word stays true -/
def rPs (P : List Int → Prop) : V → V → V → Hp → (Hp → Prop) → Prop := fun o i v H Q => ∃ a j n, o = .ref a ∧ i = .int j ∧ v = .int n ∧ H a = some (POT P a) ∧ (∀ ns, P ns → ∃ i, ixN ns.length j = some i ∧ P (ns.set i n)) ∧ Q H
theorem set_pot : PSet X (rPs P) := by
  intro pins s σ H o i v ov iv u Q I ro ri rv h
  obtain ⟨a, j, n, rfl, rfl, rfl, hp, hat, q⟩ := h
  obtain ⟨ns, pn, ln, I1⟩ := pot_open I hp
  obtain ⟨i, ei, ps⟩ := hat ns pn
  refine thn (set_list pins s σ _ (.ref a) (.int j) (.int n) ov iv u (fun H' => H' = upd (upd H a (.lst (ns.map V.int))) a (.lst ((ns.set i n).map V.int))) I1 ro ri rv
    ⟨a, ns.map V.int, j, i, rfl, rfl, upd_same, by rw [List.length_map]; exact ei, by rw [List.map_set]⟩) fun _ s' ⟨H', I', e⟩ => ?_
  subst e
  have I2 := pot_close (P := P) I' upd_same ps (by rw [List.length_set]; exact ln)
  have e2 : upd (upd (upd H a (.lst (ns.map V.int))) a (.lst ((ns.set i n).map V.int))) a (POT P a) = H := by
    funext b
    by_cases hb : b = a
    · subst hb; rw [upd_same, hp]
    · rw [upd_ne hb, upd_ne hb, upd_ne hb]
  rw [e2] at I2
  exact ⟨H, I2, q⟩
/-- by its ranges -/
def rPr (P : List Int → Prop) (pr : Int → Option (Option Int)) : R2 := fun x y H Q => ∃ a j m, x = .ref a ∧ y = .int j ∧ pr j = some m ∧ H a = some (POT P a) ∧ (∀ ns, P ns → ∃ n, atI (ns.map V.int) j = some (.int n) ∧ inR m n) ∧ ∀ n, inR m n → Q (.int n) H
theorem ix_two {pr : Int → Option (Option Int)} : IxR X (rPr P pr) := by
  intro value slice pins s σ H x y v u Q I rx ry h hs
  obtain ⟨a, j, m, e1, e2, _, hp, hat, q⟩ := h
  exact ix_pot (ok := inR m) value slice pins s σ H x y v u Q I rx ry ⟨a, j, e1, e2, hp, hat, q⟩ hs
def plB : Expr → Bool
  | .Slice .. => false
  | _ => true
theorem plain_ixP {e : Expr} (h : plB e = true) : PlainIx e := fun o i => by
  cases e <;> first | rfl | cases h
end
end FS

set_option maxRecDepth 100000
set_option autoImplicit false
set_option maxHeartbeats 1000000
/-! try: an exception that is caught under a name stays known as an object. -/
namespace FS
open PySem PySem.Spec L2
section
variable {X : Cx} {pins : List (Addr × Obj)} {σ : St} {H : Hp} {s : Shared}
theorem xo_ok {P : Program} {w : World} {H' : Hp} {h : Heap} {a : Addr} {cls : Value} {oe : Obj} {vs : Array Value} (he : h.get? a = some oe) (hz : Zc cls none oe) (hd : oe.data = .fields vs) : ObjOk P w H' h a (XO cls a) :=
  ⟨⟨oe, vs, he, hz, hd⟩, ⟨oe, he⟩, fun h1 h2 ⟨oe', vs', q1, q2, q3⟩ keep => ⟨oe', vs', keep _ q1, q2, q3⟩⟩
/-- an object that stands there, told of from now on -/
theorem Inv.adopt (I : Inv X pins σ H s) {a : Addr} {cls : Value} {oe : Obj} {vs : Array Value} (he : s.heap.get? a = some oe) (hz : Zc cls none oe) (hd : oe.data = .fields vs) (na : H a = none)
    (nL : a ≠ X.env.locals) (n0 : X.s_0.heap.get? a = none) (np : ∀ p ∈ X.pn ++ pins, p.1 ≠ a) : Inv X pins σ (upd H a (XO cls a)) s := by
  have old : ∀ b o, X.s_0.heap.get? b = some o → b ≠ a := fun b o e z => by
    rw [z, n0] at e
    cases e
  have was : ∀ b u, H b = some u → b ≠ a := fun b u e z => by
    rw [z, na] at e
    cases e
  refine ⟨I.ok, I.os, I.bare, ⟨I.base.keep, I.base.slot, fun b o e n hx => ?_, I.base.there, fun b xs e => ?_, fun b o u e => ?_, fun b ps e => ?_⟩, I.loc, I.cell, ?_, fun x c e => ?_, fun p hp => ?_, fun b o e => ?_, I.len⟩
  · rw [upd_ne (old b o e)]; exact I.base.free b o e n hx
  · have q := I.base.tups b xs e
    rw [upd_ne (was _ _ q)]; exact q
  · have q := I.base.frzs b o u e
    rw [upd_ne (was _ _ q)]; exact q
  · obtain ⟨more, q⟩ := I.base.tbls b ps e
    exact ⟨more, by rw [upd_ne (was _ _ q)]; exact q⟩
  · rw [upd_ne (Ne.symm nL)]; exact I.free
  · have ne : c ≠ a := fun z => by
      obtain ⟨v, o, q1, q2⟩ := I.cell x c e
      rw [z, he] at q1
      cases q1
      rw [hd] at q2
      cases q2
    rw [upd_ne ne]; exact I.freeC x c e
  · obtain ⟨p1, p2, p3⟩ := I.pin p hp
    exact ⟨p1, by rw [upd_ne (np p hp)]; exact p2, p3⟩
  · by_cases hb : b = a
    · subst hb
      rw [upd_same] at e
      cases e
      exact xo_ok he hz hd
    · rw [upd_ne hb] at e
      exact (I.hok b o e).stay (fun c u _ q => q) (fun c q => by rw [upd_ne (was _ _ q)]; exact q) fun c xs q => by rw [upd_ne (was _ _ q)]; exact q
/-- into an except suite -/
theorem Inv.inSuite (I : Inv X pins σ H s) (a : Addr) : Inv (X.suite a (X.pn ++ pins)) [] σ H s :=
  ⟨I.ok.suite _ _, I.os, I.bare, I.base, I.loc, I.cell, I.free, I.freeC, fun p hp => I.pin p (by rw [List.append_nil] at hp; exact hp), I.hok, I.len⟩
theorem Inv.outSuite {a : Addr} {pn' : List (Addr × Obj)} (I : Inv (X.suite a (X.pn ++ pins)) pn' σ H s) (ok : X.Ok) : Inv X pins σ H s :=
  ⟨ok, I.os, I.bare, I.base, I.loc, I.cell, I.free, I.freeC, fun p hp => I.pin p (List.mem_append_left _ hp), I.hok, I.len⟩
end
/-- the ends of a suite behind which slot i's name goes -/
def endN (i : Nat) (D : Ends) : Ends := { nx := fun σ' H' => D.nx (σ'.set i none) H', rt := D.rt, bk := fun σ' H' => D.bk (σ'.set i none) H', ct := fun σ' H' => D.ct (σ'.set i none) H' }
def wTr (K : PySem.W.Frag) (c : Value) (i : Nat) (ts : TS) (Wout : WX) (D : Ends) : WX := fun cls d σ H =>
  ∃ b, PySem.W.exmOne K cls c = some b ∧ (b = true → d = none ∧ ∀ a, H a = none → ts (endN i D) (σ.set i (some (.ref a))) (upd H a (XO cls a))) ∧ (b = false → Wout cls d σ H)
section
variable {X : Cx} {x n : Str} {c : Value} {i : Nat} {body suite : List Stmt} {b₀ : Stmt} {np pos pos' : Pos} {tb : WX → TS} {ts : TS} {Wout : WX}
/-- try: .. except X as n: .., the exception told of as an object -/
theorem ps_try_tr (hex : X.ex = []) (hs : X.stack = X.env :: X.outer) (hf : X.env.frame = some X.env.locals) (hN : X.N.Nodup) (hi : X.N[i]? = some n) (hln : X.env.kindOf n = some .local) (hc : Names X x c) (tk : Takes X Wout)
    (hb : ∀ (W : WX) (pn : List (Addr × Obj)) (xe : Value → Shared → Prop), Takes (X.tr pn xe) W → PassesOwn (model X.prog X.w) X.A X.env xe → PSs (X.tr pn xe) body (tb W))
    (hsu : ∀ (a : Addr) (pn : List (Addr × Obj)), PSs (X.suite a pn) (b₀ :: suite) ts) :
    PS X (.Try body [.ExceptHandler (some (.Name x np)) (some n) (b₀ :: suite) pos'] [] [] pos) (fun D σ H => tb (wTr X.K c i ts Wout D) D σ H) := by
  refine ⟨fun pins s0 σ0 H0 D I0 h => ?_⟩
  have ok := I0.ok
  have fr : X.A.frames = some (X.env :: X.outer) := by rw [ok.frames, hs]
  have lo : Loc X.env.scope n := .inl hln
  refine wpAny_Try_except ?_
  let xe : Value → Shared → Prop := fun e s₁ => wpAny (model X.prog X.w) X.A (noteFrame e X.env) (fun _ s₂ => wpAny (model X.prog X.w) X.A (setFlight e none) (fun _ s₃ =>
      wpAny (model X.prog X.w) X.A (handleBy e X.env [.ExceptHandler (some (.Name x np)) (some n) (b₀ :: suite) pos']) (SP X pins D) X.xe s₃) X.xe s₂) X.xe s₁
  have takes : Takes (X.tr (X.pn ++ pins) xe) (wTr X.K c i ts Wout D) := by
    intro u t xx
    obtain ⟨a, B, sI, pins', σ', H', cls, d, rfl, J', nb, up, sky, na, os, ag, b, hb1, yes, no⟩ := xx
    have J : Inv X pins σ' H' sI := J'.ofTry ok
    have sky2 : Sky B (X.env :: X.outer) a (Zc cls d) X.env.locals t.heap := by rw [← hs]; exact sky
    show wpAny (model X.prog X.w) X.A (noteFrame (.ref a) X.env) _ _ _
    refine Sky.land Zc.steady fr hf sky2 fun h3 fl3 up3 => ?_
    have J3 : Inv X pins σ' H' { t with heap := h3 } := J.landed nb fl3.1 (up.trans up3) os ag
    obtain ⟨o3, w3, e3, z3, d3⟩ := fl3.there
    have off : a ∉ frs (X.env :: X.outer) := fun hm => by
      obtain ⟨_, o', e', hnf⟩ := fl3.2.2.1.mem hm
      rw [e3] at e'
      cases e'
      exact hnf _ d3
    have nL : a ≠ X.env.locals := fun z => off (List.mem_filterMap.mpr ⟨X.env, List.mem_cons_self, by rw [hf, z]⟩)
    have nF : a ∉ X.fs := fun hm => by
      obtain ⟨en, he, q⟩ := List.mem_filterMap.mp hm
      exact off (List.mem_filterMap.mpr ⟨en, List.mem_cons_of_mem _ he, q⟩)
    have nI : ∀ o, sI.heap.get? a ≠ some o := fun o e => by
      have q := nb a o e (by rw [show (X.tr (X.pn ++ pins) xe).stack = X.env :: X.outer from hs]; exact off)
      rw [fl3.2.1] at q
      cases q
    have n0 : X.s_0.heap.get? a = none := by
      cases q : X.s_0.heap.get? a with
      | none => rfl
      | some o =>
        obtain ⟨o', e'⟩ := J.base.there a o q (by rw [hex]; exact List.not_mem_nil)
        exact (nI o' e').elim
    have npin : ∀ p ∈ X.pn ++ pins, p.1 ≠ a := fun p hp z => by
      have q := (J.pin p hp).1
      rw [z] at q
      exact nI _ q
    refine wpAny_handleBy_cons (codeAny_handlers_test ?_) (by intro q; cases q)
    have LT : PySem.W.Looks (model X.prog X.w) h3 (typeOf (.ref a)) cls := fun A Q E s k q => wpAny_typeOf_ref (k _ _ e3) (by rw [z3.1]; exact q)
    have LM := PySem.W.exm_one (M := model X.prog X.w) J3.kIn LT hb1
    have S3 := FS.Inv.inSuite J3 a
    have look : ∀ {Q : Value → Shared → Prop} {E : Value → Shared → Prop}, Q c { t with heap := h3 } → wpAny (model X.prog X.w) (X.A.mark (some (.ref a))) (eval (.Name x np) X.env) Q E { t with heap := h3 } := fun {Q E} q => by
      obtain ⟨hg, hdbg, hm | ⟨hm, hv, hnn⟩⟩ := hc
      · exact ld_glob (X := X.suite a (X.pn ++ pins)) S3 hg hm q hdbg
      · exact ld_blt (X := X.suite a (X.pn ++ pins)) S3 hg hm hv q hnn hdbg
    refine look (LM.here ?_)
    cases b with
    | true =>
      obtain ⟨dn, yes2⟩ := yes rfl
      subst dn
      refine codeAny_handlers_suite_as ?_
      refine HandSPX.lands_againZ fl3 fun h4 fl4 up4 => ?_
      have J4 : Inv X pins σ' H' { t with heap := h4 } := J.landed nb fl4.1 ((up.trans up3).trans up4) os ag
      obtain ⟨o4, w4, e4, z4, d4⟩ := fl4.there
      have S4 := FS.Inv.inSuite (FS.Inv.adopt J4 e4 z4 d4 na nL n0 npin) a
      refine store_ok (X := X.suite a (X.pn ++ pins)) (v := .ref a) S4 hN hi lo rfl (fun s5 S5 => ?_) (.inr hln)
      refine wpAny_mono ((hsu a (X.pn ++ pins)).run [] s5 _ _ _ S5 (yes2 a na)) (fun f s6 sp => ?_) (fun _ _ z => False.elim z)
      have fin : ∀ {σ6 : St} {H6 : Hp} {Q : Shared → Prop}, Inv (X.suite a (X.pn ++ pins)) [] σ6 H6 s6 → (∀ s7, Inv X pins (σ6.set i none) H6 s7 → Q s7) →
          wpAny (model X.prog X.w) X.A (do bindName X.env n .none; unbindBehindTheSuite X.env n pos') (fun _ s7 => Q s7) X.xe s6 := fun {σ6 H6 Q} S6 hq => gone_ok (FS.Inv.outSuite S6 ok) hN hi hln hq
      cases f with
      | next => obtain ⟨σ6, H6, S6, q6⟩ := sp; exact fin S6 fun s7 J7 => ⟨_, _, J7, q6⟩
      | brk => obtain ⟨σ6, H6, S6, q6⟩ := sp; exact fin S6 fun s7 J7 => ⟨_, _, J7, q6⟩
      | cont => obtain ⟨σ6, H6, S6, q6⟩ := sp; exact fin S6 fun s7 J7 => ⟨_, _, J7, q6⟩
      | ret u => obtain ⟨v6, σ6, H6, S6, r6, q6⟩ := sp; exact fin S6 fun s7 J7 => ⟨_, _, _, J7, r6, q6⟩
    | false =>
      show wpAny _ X.A (handleBy (.ref a) X.env []) _ _ _
      refine wpAny_handleBy_nil ?_
      obtain ⟨k1, k2, k3, oe, vs, T, oT, ts', he, hz, hd, h1, hr⟩ := id fl3
      unfold PySem.passOn
      refine wpAny_bind (wpAny_field he hd h1 ?_)
      rw [if_neg (show ¬ ((Value.ref T == Value.none) = true) from by simp)]
      have out : wpAny (model X.prog X.w) X.A (setFlight (.ref a) X.env.frame) (fun _ s4 => wpAny (model X.prog X.w) X.A (throw (.ref a) : Sem Flow) (SP X pins D) X.xe s4) X.xe { t with heap := h3 } := by
        rw [hf]
        refine HandSPX.setFlight_upZ fl3 fun h4 hh4 up4 => wpAny_throw (tk _ _ ?_)
        exact ⟨a, B, sI, pins, σ', H', cls, d, rfl, J, nb, (up.trans up3).trans up4, .inr (.inr (by rw [hs]; exact hh4)), na, os, ag, no rfl⟩
      first
        | exact wpAny_bind (wpAny_pure (wpAny_bind out))
        | exact wpAny_bind out
  refine wpAny_mono ((hb (wTr X.K c i ts Wout D) (X.pn ++ pins) xe takes PassesOwn.looking).run [] s0 σ0 H0 D (I0.toTry _) h) (fun f s1 sp => ?_) (fun e s1 he => he)
  cases f with
  | next => obtain ⟨σ', H', J', q⟩ := sp; exact wpAny_execs_nil ⟨σ', H', J'.ofTry ok, q⟩
  | brk => obtain ⟨σ', H', J', q⟩ := sp; exact ⟨σ', H', J'.ofTry ok, q⟩
  | cont => obtain ⟨σ', H', J', q⟩ := sp; exact ⟨σ', H', J'.ofTry ok, q⟩
  | ret u => obtain ⟨v, σ', H', J', r, q⟩ := sp; exact ⟨v, σ', H', J'.ofTry ok, r, q⟩
end
end FS

set_option maxRecDepth 100000
set_option autoImplicit false
set_option maxHeartbeats 1000000
/-! Where one stands; names, displays, calls, isinstance, targets, comprehensions. -/
namespace FS
open PySem PySem.Spec L2

/-- what a def promises that does what m tells -/
def spOf (k : Kx) (n : Nat) (m : List PD → R Sl) : Sp := fun vs H Q E => vs.length = n ∧ ∃ (ds : List PD) (p : Addr → Prop), Reps k (part p H) ds vs ∧ (∀ a, H a = none → p a) ∧
  tR k (fun cls d _ H' => E cls d H') [] H (m ds) fun s => ∀ v H', Same H H' → ResOk k p H H' s v → Q v H'

/-- the texts' names: a frame's, the defs', constants', classes' by number; built-in names that the module leaves -/
structure Cc where
  N : List Str
  fns : List Str
  glos : List Str
  cls : List Str
  bn : List Str
  lev : Nat
  fnq : List Str
  gd : Bool := false

def visB (sc : Scope) (x : Str) : Bool := match sc.names.lookup x with
  | some .local => true
  | some .cell => true
  | some .free => true
  | _ => false
def wrB (sc : Scope) (x : Str) : Bool := match sc.names.lookup x with
  | some .local => true
  | some .cell => true
  | _ => false
def glB (sc : Scope) (x : Str) : Bool := match sc.names.lookup x with
  | some .globalImplicit => true
  | _ => false
def okN (x : Str) : Bool := !(x == ("__debug__" : Str)) && !(x == ("__classdict__" : Str)) && !(x == ("__name__" : Str))
theorem okN_dbg {x : Str} (h : okN x = true) : (x == ("__debug__" : Str)) = false ∧ (x == ("__classdict__" : Str)) = false ∧ x ≠ "__name__" := by
  unfold okN at h
  simp only [Bool.and_eq_true, Bool.not_eq_true'] at h
  exact ⟨h.1.1, h.1.2, fun e => by rw [e] at h; simp at h⟩

/-- the types' names that plain data has -/
def tyNs : List String := ["NoneType", "bool", "int", "str", "tuple", "list", "dict"]
/-- a def that raises nothing, called where an exception is handled -/
structure FnQ (P : Program) (w : World) (K : PySem.W.Frag) (mg : Str → Option Value) (base : Heap) (lev : Nat) (f : Addr) (fd : FuncData) (ps : List Str) (sp : Sp) : Prop where
  len : ∀ vs H Q E, sp vs H Q E → vs.length = ps.length
  run : ∀ (A : Around) (outer : List Env) (s : Shared) (H : Hp) (args : Args) (us : List Value) (vs : List V) (Q : VK) (E : XK), L2H.RoomH lev A → Env0 P w K mg base A outer s H → BindsTo s fd args (ps.zip us) → Vals vs us → sp vs H Q E →
    codeAny (model P w) A (.call (.ref f) args) (CR (L2.CX P w) outer P w H s Q E) s
theorem FnQ.mono {P : Program} {w : World} {K : PySem.W.Frag} {mg : Str → Option Value} {base : Heap} {i j : Nat} {f : Addr} {fd : FuncData} {ps : List Str} {sp : Sp} (F : FnQ P w K mg base i f fd ps sp) (h : i ≤ j) : FnQ P w K mg base j f fd ps sp :=
  ⟨F.len, fun A outer s H args us vs Q E hr => F.run A outer s H args us vs Q E (hr.mono h)⟩
structure OkQ (c : Cc) (g : Gs) (k : Kx) (sc sw : Scope) (X : Cx) : Prop where
  hK : X.K = k.K
  hN : X.N = c.N
  nd : c.N.Nodup
  hsc : X.env.scope = sc
  kind : sc.kind = .function
  wr : ∀ x, wrB sw x = true → Loc X.env.scope x ∧ (X.fn x = true ∨ X.env.scope.names.lookup x = some .local)
  bn : ∀ x ∈ c.bn, X.mg x = none
  fq : ∀ (i : Nat) (x : Str), c.fns[i]? = some x → x ∈ c.fnq → ∃ f fd ps, FnQ X.prog X.w X.K X.mg X.base c.lev f fd ps (spOf k ps.length (g.fn i)) ∧ X.mg x = some (.ref f) ∧ PySem.W.keepIn X.K (.ref f) = true ∧ Binds X.K fd ps [] ∧ ∀ ds, g.fn i ds ≠ .st → ds.length = ps.length
  glo : ∀ (i : Nat) (x : Str), c.glos[i]? = some x → ∃ v u, X.mg x = some u ∧ RelV v u ∧ Rep k (fun _ => none) (g.glo i) v
  ncl : c.cls.length = g.nc
  htk : k.tk = g.tk
  sub : ∀ (i j : Nat) (x y : Str), c.cls[i]? = some x → c.cls[j]? = some y → PySem.W.kitOne X.K (k.cv i) (k.cv j) = some (g.sub i j)
  exm : ∀ (i j : Nat), i < g.nc → j < g.nc → PySem.W.exmOne X.K (k.cv i) (k.cv j) = some (g.sub i j)
  cls : ∀ (i : Nat) (x : Str), c.cls[i]? = some x → ∃ C, k.cv i = .ref C ∧ X.mg x = some (.ref C) ∧ PySem.W.keepIn X.K (.ref C) = true ∧ PySem.W.excIn X.K C PySem.HandSPX.veTail "ValueError.__new__" = true ∧ Raises X (.ref C) ∧
    (∀ n ∈ tyNs, PySem.W.kitOne X.K (.type n) (.ref C) = some false) ∧ ExcC X.K C ∧ PySem.W.kitOne X.K (.ref C) (.type "ValueError") = some true
structure Ok (c : Cc) (g : Gs) (k : Kx) (W : WX) (sc sw : Scope) (X : Cx) : Prop extends OkQ c g k sc sw X where
  calm : X.calm = true
  gd : c.gd = true → X.A.guards = some []
  room : Room c.lev X.A
  takes : Takes X W
  own : PassesOwn (model X.prog X.w) X.A X.env X.xe
  fn : ∀ (i : Nat) (x : Str), c.fns[i]? = some x → ∃ f fd ps, FnOk X.prog X.w X.K X.mg X.base (L2.CX X.prog X.w) c.lev f fd ps (spOf k ps.length (g.fn i)) ∧ X.mg x = some (.ref f) ∧ PySem.W.keepIn X.K (.ref f) = true ∧ Binds X.K fd ps [] ∧ ∀ ds, g.fn i ds ≠ .st → ds.length = ps.length
  prr : ∀ (ns : List Int), k.P ns → ∀ (j : Int) (m : Option Int), g.pr j = some m → ∃ n, atI (ns.map V.int) j = some (.int n) ∧ inR m n
  prs : ∀ (ns : List Int), k.P ns → ∀ (j n : Int) (m : Option Int), g.pr j = some m → inR m n → ∃ i, ixN ns.length j = some i ∧ k.P (ns.set i n)
instance {c : Cc} {g : Gs} {k : Kx} {W : WX} {sc sw : Scope} {X : Cx} : CoeOut (Ok c g k W sc sw X) (OkQ c g k sc sw X) := ⟨fun o => o.toOkQ⟩

/-- .. in a def's own frame -/
structure OkT (c : Cc) (g : Gs) (k : Kx) (W : WX) (sc : Scope) (X : Cx) : Prop extends Ok c g k W sc sc X where
  ex0 : X.ex = []
  stk : X.stack = X.env :: X.outer
  frm : X.env.frame = some X.env.locals
instance {c : Cc} {g : Gs} {k : Kx} {W : WX} {sc : Scope} {X : Cx} : Coe (OkT c g k W sc X) (Ok c g k W sc sc X) := ⟨fun o => o.toOk⟩
theorem Ok.hu {c : Cc} {g : Gs} {k : Kx} {W : WX} {sc sw : Scope} {X : Cx} (o : Ok c g k W sc sw X) (h : 1 ≤ c.lev) : X.A.units + 65 < cLine := by
  have := o.room.un
  omega

theorem vis_of {sc : Scope} {x : Str} (h : visB sc x = true) : Vis sc x := by
  unfold visB at h
  split at h
  · rename_i e; exact .inl e
  · rename_i e; exact .inr (.inl e)
  · rename_i e; exact .inr (.inr e)
  · cases h
theorem loc_of {sc : Scope} {x : Str} (h : wrB sc x = true) : Loc sc x := by
  unfold wrB at h
  split at h
  · rename_i e; exact .inl e
  · rename_i e; exact .inr e
  · cases h
theorem gl_of {X : Cx} {sc : Scope} {x : Str} (e : X.env.scope = sc) (h : glB sc x = true) : Gl X x := by
  unfold glB at h
  split at h
  · rename_i q
    show X.env.scope.names.lookup x = some .globalImplicit
    rw [e]; exact q
  · cases h

/-! ### names -/
section
variable {X : Cx} {k : Kx} {W : WX} {f g : En → R Sl}
theorem pe_v {N : List Str} {sc : Scope} {i : Nat} {x : Str} {pos : Pos} (eN : X.N = N) (eS : X.env.scope = sc) (h1 : N[i]? = some x) (h2 : visB sc x = true) (h3 : okN x = true) :
    PE X (.Name x pos) (tE k W fun ρ => match ρ[i]? with
      | some (some (.v d)) => .ok (.v d)
      | _ => .st) := by
  have n := okN_dbg h3
  refine pe_imp (pe_var (i := i) (by rw [eN]; exact h1) (by rw [eS]; exact vis_of h2) n.1 n.2.1) fun σ H Q ⟨S, ρ, st, q⟩ => ?_
  dsimp only at q
  have go : ∀ d, ρ[i]? = some (some (.v d)) → tVar i σ H Q := fun d e => by
    rw [e] at q
    obtain ⟨v, e1, r⟩ := st.slot i _ e
    exact ⟨v, e1, q v H (Same.refl H) r⟩
  cases e : ρ[i]? with
  | none => rw [e] at q; exact q.elim
  | some o =>
    cases o with
    | none => rw [e] at q; exact q.elim
    | some s =>
      cases s with
      | v d => exact go d e
      | l d => rw [e] at q; exact q.elim
      | k _ d => rw [e] at q; exact q.elim
theorem imp_c {v : V} {d : PD} (r : ∀ G, Rep k G d v) {σ : St} {H : Hp} {Q : VK} (q : tE k W (fun _ => .ok (.v d)) σ H Q) : tC v σ H Q := by
  obtain ⟨S, ρ, st, q⟩ := q
  exact q v H (Same.refl H) (r _)
theorem pe_ci {i : Int} {j : Nat} {pos : Pos} : PE X (.Constant (.int i) j pos) (tE k W fun _ => .ok (.v (.int i))) := pe_imp pe_int fun _ _ _ q => imp_c (fun _ => Rep.int) q
theorem pe_cb {i : Bool} {j : Nat} {pos : Pos} : PE X (.Constant (.bool i) j pos) (tE k W fun _ => .ok (.v (.bl i))) := pe_imp pe_bl fun _ _ _ q => imp_c (fun _ => Rep.bl) q
theorem pe_cs {i : Str} {j : Nat} {pos : Pos} : PE X (.Constant (.str i) j pos) (tE k W fun _ => .ok (.v (.str i))) := pe_imp pe_str fun _ _ _ q => imp_c (fun _ => Rep.str) q
theorem pe_cn {j : Nat} {pos : Pos} : PE X (.Constant .none j pos) (tE k W fun _ => .ok (.v .non)) := pe_imp pe_non fun _ _ _ q => imp_c (fun _ => Rep.non) q
theorem pe_g {x : Str} {v : V} {u : Value} {d : PD} {pos : Pos} (hg : Gl X x) (hm : X.mg x = some u) (r : RelV v u) (rd : Rep k (fun _ => none) d v) (h3 : okN x = true) : PE X (.Name x pos) (tE k W fun _ => .ok (.v d)) :=
  pe_imp (pe_glob hg hm r (okN_dbg h3).1) fun _ _ _ q => imp_c (fun G => Rep.mono (fun _ _ e => by cases e) rd) q

/-- a number of a list that is known by a word -/
theorem get_pot {α : Type} {ρ : En} {i : Nat} {r : α → Prop} {a b : α} (h : r (match ρ[i]? with
    | some (some (.v .pot)) => a
    | _ => b)) (hb : ¬ r b) : ρ[i]? = some (some (.v .pot)) ∧ r a := by
  cases e : ρ[i]? with
  | none => rw [e] at h; exact absurd h hb
  | some o =>
    cases o with
    | none => rw [e] at h; exact absurd h hb
    | some s =>
      cases s with
      | l d => rw [e] at h; exact absurd h hb
      | k _ d => rw [e] at h; exact absurd h hb
      | v d => cases d <;> rw [e] at h <;> first | exact ⟨rfl, h⟩ | exact absurd h hb
theorem slot_pot {S : Sx} {ρ : En} {σ : L2.St} {H : Hp} (st : StOk k S ρ σ H) {i : Nat} (e : ρ[i]? = some (some (.v .pot))) : ∃ a, σ[i]? = some (some (V.ref a)) ∧ H a = some (POT k.P a) := by
  obtain ⟨v, e1, r⟩ := st.slot i _ e
  have r : Rep k (reg S ρ σ H) .pot v := r
  simp only [Rep] at r
  obtain ⟨a, rfl, q⟩ := r
  exact ⟨a, e1, (part_some q).2⟩
theorem pe_pg {N : List Str} {sc : Scope} {i : Nat} {x : Str} {y : Expr} {p pos : Pos} {pr : Int → Option (Option Int)} (hprr : ∀ (ns : List Int), k.P ns → ∀ (j : Int) (m : Option Int), pr j = some m → ∃ n, atI (ns.map V.int) j = some (.int n) ∧ inR m n)
    (eN : X.N = N) (eS : X.env.scope = sc) (h1 : N[i]? = some x) (h2 : visB sc x = true) (h3 : okN x = true) (hp : plB y = true) (h : PE X y (tE k W f)) :
    PE X (.Subscript (.Name x p) y pos) (tE k W fun ρ => match ρ[i]? with
      | some (some (.v .pot)) => (asI (f ρ)).bind fun j => match pr j with
        | some m => .ask m fun n => .ok (.v (.int n))
        | none => .st
      | _ => .st) := by
  have n := okN_dbg h3
  refine pe_imp (pe_ix (ix_two (P := k.P) (pr := pr)) (pe_var (i := i) (by rw [eN]; exact h1) (by rw [eS]; exact vis_of h2) n.1 n.2.1) h (plain_ixP hp)) fun σ H Q ⟨S, ρ, st, q⟩ => ?_
  dsimp only at q
  obtain ⟨er, q⟩ := get_pot (r := fun z => tR k W σ H z fun s => ∀ v H', Same H H' → ResOk k (regP S ρ σ) H H' s v → Q v H') q (fun z => z)
  obtain ⟨a, ea, hA⟩ := slot_pot st er
  refine ⟨.ref a, ea, S, ρ, st, (tR.asI q.bind).mono (Same.refl _) fun s _ ⟨j, es, q⟩ v H1 t1 r1 => ?_⟩
  subst es
  have r1 := Rep.ofInt (k := k) (G := part (regP S ρ σ) H1) r1
  subst r1
  cases em : pr j with
  | none => rw [em] at q; exact q.elim
  | some m =>
    rw [em] at q
    exact ⟨a, j, m, rfl, rfl, em, t1 _ _ hA, fun ns hn => hprr ns hn j m em, fun z hz => q z hz (.int z) H1 t1 (show Rep k (part (regP S ρ σ) H1) (.int z) (.int z) from Rep.int)⟩

/-! ### argument lists, displays -/
theorem pa_n : PA X [] (tA k W fun _ => .ok []) := pa_imp pa_nil fun σ H Q ⟨S, ρ, st, q⟩ => q [] H (Same.refl H) Reps.nil
theorem pa_c {e : Expr} {es : List Expr} {fs : En → R (List PD)} (hn : nsB e = true) (h : PE X e (tE k W f)) (hs : PA X es (tA k W fs)) : PA X (e :: es) (tA k W fun ρ => (asP (f ρ)).bind fun d => (fs ρ).bind fun ds => .ok (d :: ds)) := by
  refine pa_imp (pa_cons h hs (star_ns hn _ _)) fun σ H Q ⟨S, ρ, st, q⟩ => ?_
  refine tE.data st (q.bind.mono (Same.refl _) fun d _ q v H1 t1 r1 => ?_)
  refine ⟨S, ρ, st.mono t1, q.bind.mono t1 fun ds _ q vs H2 t2 r2 => ?_⟩
  exact q (v :: vs) H2 (t1.trans t2) (Reps.cons (Rep.mono (part_mono t2 fun _ _ _ z => z) r1) r2)
theorem pe_tp {es : List Expr} {x1 : Nat} {pos : Pos} {fs : En → R (List PD)} (h : PA X es (tA k W fs)) : PE X (.Tuple es x1 pos) (tE k W fun ρ => (fs ρ).bind fun ds => if ds.length ≤ sizeLine then .ok (.v (.tup ds)) else .st) := by
  refine pe_imp (pe_tup h) fun σ H Q ⟨S, ρ, st, q⟩ => ?_
  refine ⟨S, ρ, st, q.bind.mono (Same.refl _) fun ds _ q vs H1 t1 r1 => ?_⟩
  by_cases hz : ds.length ≤ sizeLine
  · rw [if_pos hz] at q
    have st1 := st.mono t1
    exact ⟨by rw [r1.length]; exact hz, fun p n => q _ _ (t1.trans (same_new n)) (ResOk.back t1 (ResOk.newT (k := k) (p := regP S ρ σ) (fun a n => st1.fresh n) n r1))⟩
  · rw [if_neg hz] at q; exact q.elim
theorem pe_ls {es : List Expr} {pos : Pos} {fs : En → R (List PD)} (h : PA X es (tA k W fs)) : PE X (.List es pos) (tE k W fun ρ => (fs ρ).bind fun ds => if ds.length ≤ sizeLine then .ok (.l ds) else .st) := by
  refine pe_imp (pe_lst h) fun σ H Q ⟨S, ρ, st, q⟩ => ?_
  refine ⟨S, ρ, st, q.bind.mono (Same.refl _) fun ds _ q vs H1 t1 r1 => ?_⟩
  by_cases hz : ds.length ≤ sizeLine
  · rw [if_pos hz] at q
    exact ⟨by rw [r1.length]; exact hz, fun p n => q _ _ (t1.trans (same_new n)) ((ResOk.newL n r1).back t1)⟩
  · rw [if_neg hz] at q; exact q.elim

theorem pe_d0 {t : Bool} {pos : Pos} : PE X (.Dict [] [] pos) (tE k W fun _ => .ok (.k t [])) := by
  cases t
  · exact pe_imp pe_dnewK fun σ H Q ⟨S, ρ, st, q⟩ p n => q (.ref p) _ (same_new n) ⟨p, rfl, n, .inl ⟨rfl, [], upd_same, by simp only [RepK]⟩⟩
  · exact pe_imp pe_dnewT fun σ H Q ⟨S, ρ, st, q⟩ p n => q (.ref p) _ (same_new n) ⟨p, rfl, n, .inr ⟨rfl, [], upd_same, by simp only [RepT]⟩⟩
theorem pe_d1 {a c : Expr} {pos : Pos} (h1 : PE X a (tE k W f)) (h2 : PE X c (tE k W g)) : PE X (.Dict [some a] [c] pos) (tE k W fun ρ => (asI (f ρ)).bind fun i => (asP (g ρ)).bind fun x => if x.flat then .ok (.k false [(.int i, x)]) else .st) := by
  refine pe_imp (pe_disp (pps_cons h1 h2 pps_nil) rfl rfl (by simp) (by simp)) fun σ H Q ⟨S, ρ, st, q⟩ p n => ?_
  have st1 := st.mono (same_new (o := .dK []) n)
  refine ⟨S, ρ, st1, (tR.asI q.bind).mono (same_new n) fun s _ ⟨i, es, q⟩ v H1 t1 r1 => ?_⟩
  subst es
  have r1 := r1.int
  subst r1
  have st2 := st1.mono t1
  refine tE.data st2 (q.bind.mono ((same_new n).trans t1) fun x _ q w H2 t2 r2 => ?_)
  have hp : H2 p = some (.dK []) := t2 _ _ (t1 _ _ upd_same)
  refine ⟨hp, [(.inl i, w)], rfl, by simp, ?_⟩
  by_cases hf : x.flat = true
  · rw [if_pos hf] at q
    refine q _ _ (fun b o e => ?_) ⟨p, rfl, n, .inl ⟨rfl, _, upd_same, ?_⟩⟩
    · rw [upd_ne (ne_of_none e n)]
      exact t2 _ _ (t1 _ _ (same_new n _ _ e))
    · show RepK k _ [(PD.int i, x)] [(Sum.inl i, w)]
      simp only [RepK]
      exact ⟨_, _, _, rfl, rfl, Rep.flat hf r2, rfl⟩
  · rw [if_neg hf] at q
    exact q.elim

/-! ### calls -/
theorem tR.move {α : Type} {k : Kx} {W W' : WX} {σ σ' : St} {H : Hp} {r : R α} {f : α → Prop} (i : ∀ c H', W (k.cv c) none σ H' → W' (k.cv c) none σ' H') (h : tR k W σ H r f) : tR k W' σ' H r f := by
  induction r with
  | ok a => exact h
  | ex c => exact fun H' t => i c H' (h H' t)
  | st => exact h.elim
  | ask m r ih => exact fun j h0 => ih j (h j h0)
theorem pe_cl {x : Str} {p pos : Pos} {lev : Nat} {fa : Addr} {fd : FuncData} {ps : List Str} {m : List PD → R Sl} {e : Expr} {es : List Expr} {fs : En → R (List PD)} (F : FnOk X.prog X.w X.K X.mg X.base (L2.CX X.prog X.w) lev fa fd ps (spOf k ps.length m)) (hr : Room lev X.A) (hg : Gl X x)
    (hm : X.mg x = some (.ref fa)) (hkp : PySem.W.keepIn X.K (.ref fa) = true) (hb : Binds X.K fd ps []) (tk : Takes X W) (hn : (e :: es).all nsB = true) (h3 : okN x = true) (hl : ∀ ds, m ds ≠ .st → ds.length = ps.length) (h : PA X (e :: es) (tA k W fs)) :
    PE X (.Call (.Name x p) (e :: es) [] pos) (tE k W fun ρ => (fs ρ).bind m) := by
  have hn' : nsB e = true ∧ es.all nsB = true := by rw [List.all_cons, Bool.and_eq_true] at hn; exact hn
  refine pe_imp (pe_callS F hr hg hm hkp hb (fun σ => passAt tk σ) h (okN_dbg h3).1 (star_ns hn'.1 _ _) (star_all hn'.2 _ _)) fun σ H Q ⟨S, ρ, st, q⟩ => ?_
  refine ⟨S, ρ, st, q.bind.mono (Same.refl _) fun ds e0 q vs H1 t1 r1 => ?_⟩
  have st1 := st.mono t1
  have hd : m ds ≠ .st := fun z => by rw [z] at q; exact q.elim
  refine ⟨by rw [r1.length]; exact hl ds hd, ds, regP S ρ σ, r1, fun a n => st1.fresh n, ?_⟩
  refine tR.move (fun c H2 w => w) (q.mono t1 fun s _ q v H2 t2 r2 => q v H2 (t1.trans t2) (r2.back t1))

theorem pe_cl0 {x : Str} {p pos : Pos} {lev : Nat} {fa : Addr} {fd : FuncData} {ps : List Str} {m : List PD → R Sl} (F : FnOk X.prog X.w X.K X.mg X.base (L2.CX X.prog X.w) lev fa fd ps (spOf k ps.length m)) (hr : Room lev X.A) (hg : Gl X x)
    (hm : X.mg x = some (.ref fa)) (hkp : PySem.W.keepIn X.K (.ref fa) = true) (hb : Binds X.K fd ps []) (tk : Takes X W) (h3 : okN x = true) (hl : ∀ ds, m ds ≠ .st → ds.length = ps.length) :
    PE X (.Call (.Name x p) [] [] pos) (tE k W fun _ => m []) := by
  have key : PE X (.Call (.Name x p) [] [] pos) (tCallS (spOf k ps.length m) (WE W) tNil) := by
    refine ⟨fun pins s σ H Q I h => ?_⟩
    refine wpAny_Call_Name_kw (ld_glob I hg hm ?_ (okN_dbg h3).1)
    exact PySem.W.callWith_K0 I.kIn hkp (run_fnS (us := []) F hr hb (passAt tk σ) I .nil h)
  refine pe_imp key fun σ H Q ⟨S, ρ, st, q⟩ => ?_
  have hd : m [] ≠ .st := fun z => by rw [z] at q; exact q.elim
  refine ⟨hl [] hd, [], regP S ρ σ, Reps.nil, fun a n => st.fresh n, ?_⟩
  refine tR.move (fun c H2 w => w) (q.mono (Same.refl _) fun s _ q v H2 t2 r2 => q v H2 t2 (r2.back (Same.refl _)))
theorem tR.nox_bind {α β : Type} {k : Kx} {W W' W2 : WX} {σ σ' σ2 : St} {H : Hp} {r : R α} {m : α → R β} {f : β → Prop} (h : tR k W σ H (r.bind m).nox f) : tR k W' σ' H r fun a => tR k W2 σ2 H (m a).nox f := by
  induction r with
  | ok a =>
    have h : tR k W σ H (m a).nox f := h
    show tR k W2 σ2 H (m a).nox f
    generalize m a = q at h ⊢
    induction q with
    | ok b => exact h
    | ex c => exact h.elim
    | st => exact h.elim
    | ask m r ih => exact fun j h0 => ih j (h j h0)
  | ex c => exact h.elim
  | st => exact h.elim
  | ask m r ih => exact fun j h0 => ih j (h j h0)
theorem tR.of_nox {β : Type} {k : Kx} {W W' : WX} {σ σ' : St} {H : Hp} {q : R β} {f : β → Prop} (h : tR k W σ H q.nox f) : tR k W' σ' H q f := by
  induction q with
  | ok b => exact h
  | ex c => exact h.elim
  | st => exact h.elim
  | ask m r ih => exact fun j h0 => ih j (h j h0)
theorem run_fnQ {pins : List (Addr × Obj)} {σ : St} {H : Hp} {s : Shared} {Q : VK} {us : List Value} {vs : List V} {lev : Nat} {fa : Addr} {fd : FuncData} {ps : List Str} {sp : Sp} (F : FnQ X.prog X.w X.K X.mg X.base lev fa fd ps sp) (hr : L2H.RoomH lev X.A) (hb : Binds X.K fd ps [])
    (I : Inv X pins σ H s) (r : Vals vs us) (h : sp vs H Q fun _ _ _ => False) : wpAny (model X.prog X.w) X.A (call (.ref fa) us) (EP X pins σ Q) X.xe s := by
  have hl : us.length = ps.length := by rw [← r.length]; exact F.len _ _ _ _ h
  have b := hb s us I.kIn (by rw [List.append_nil]; exact hl)
  rw [List.append_nil] at b
  refine wpAny_call (codeAny_mono (F.run X.A X.stack s H ⟨us, []⟩ us vs Q _ hr I.env0 b r h) fun r s' hq => ?_)
  cases r with
  | error e =>
    obtain ⟨_, _, _, _, _, _, _, _, _, _, _, _, z⟩ := hq
    exact z.elim
  | ok fl => cases fl <;> first | exact I.after hq | exact False.elim hq
/-- a call where an exception is handled -/
theorem pe_qc {x : Str} {p pos : Pos} {lev : Nat} {fa : Addr} {fd : FuncData} {ps : List Str} {m : List PD → R Sl} {e : Expr} {es : List Expr} {fs : En → R (List PD)} (F : FnQ X.prog X.w X.K X.mg X.base lev fa fd ps (spOf k ps.length m)) (hr : L2H.RoomH lev X.A) (hg : Gl X x)
    (hm : X.mg x = some (.ref fa)) (hkp : PySem.W.keepIn X.K (.ref fa) = true) (hb : Binds X.K fd ps []) (hn : (e :: es).all nsB = true) (h3 : okN x = true) (hl : ∀ ds, m ds ≠ .st → ds.length = ps.length) (h : PA X (e :: es) (tA k W fs)) :
    PE X (.Call (.Name x p) (e :: es) [] pos) (tE k W fun ρ => ((fs ρ).bind m).nox) := by
  have hn' : nsB e = true ∧ es.all nsB = true := by rw [List.all_cons, Bool.and_eq_true] at hn; exact hn
  have key : PE X (.Call (.Name x p) (e :: es) [] pos) (fun σ H Q => tA k W fs σ H fun vs H1 => spOf k ps.length m vs H1 Q fun _ _ _ => False) := by
    refine ⟨fun pins s σ H Q I h0 => ?_⟩
    refine wpAny_Call_Name_kw (ld_glob I hg hm ?_ (okN_dbg h3).1)
    exact PySem.W.callWith_K (h₀ := X.base) I.ok.mod.kin hkp (thn (h.run pos pins s σ H _ I h0) fun us s1 ⟨vs, H1, I1, r, q⟩ => ⟨I1.kIn, run_fnQ F hr hb I1 r q⟩) (star_ns hn'.1 _ _) (star_all hn'.2 _ _)
  refine pe_imp key fun σ H Q ⟨S, ρ, st, q⟩ => ?_
  refine ⟨S, ρ, st, (tR.nox_bind (W' := W) (σ' := σ) (W2 := W) (σ2 := σ) q).mono (Same.refl _) fun ds e0 q vs H1 t1 r1 => ?_⟩
  have st1 := st.mono t1
  have hd : m ds ≠ .st := fun z => by rw [z] at q; exact q.elim
  refine ⟨by rw [r1.length]; exact hl ds hd, ds, regP S ρ σ, r1, fun a n => st1.fresh n, ?_⟩
  exact (tR.of_nox (W' := fun _ _ _ _ => False) (σ' := []) q).mono t1 fun s _ q v H2 t2 r2 => q v H2 (t1.trans t2) (r2.back t1)

/-! ### and, or, not, if .. else -/
theorem imp_b {t : TE} (hi : ∀ σ H Q, tE k W f σ H Q → t σ H Q) {S : Sx} {ρ : En} {σ : St} {H : Hp} {Q : VK} (st : StOk k S ρ σ H) (q : tR k W σ H (asB (f ρ)) fun b => ∀ H', Same H H' → Q (.bl b) H') : t σ H Q :=
  hi σ H Q ⟨S, ρ, st, (tR.asB q).mono (Same.refl _) fun s _ z v H' t r => by
    obtain ⟨b, rfl, z⟩ := z
    rw [r.bl]; exact z H' t⟩
theorem pe_an {a b : Expr} {rest : List Expr} {pos : Pos} (h1 : PE X a (tE k W f)) (h2 : PE X (.BoolOp .And (b :: rest) pos) (tE k W g)) :
    PE X (.BoolOp .And (a :: b :: rest) pos) (tE k W fun ρ => (asB (f ρ)).bind fun b => if b then (asB (g ρ)).bind fun b' => okB b' else okB false) := by
  refine pe_imp (pe_and h1 h2) fun σ H Q ⟨S, ρ, st, q⟩ => ?_
  refine imp_b (f := f) (k := k) (W := W) (fun _ _ _ q => q) st (q.bind.mono (Same.refl _) fun b _ q H1 t1 => ⟨b, rfl, ?_⟩)
  cases b with
  | true =>
    rw [if_pos rfl] at q ⊢
    exact imp_b (f := g) (k := k) (W := W) (fun _ _ _ q => q) (st.mono t1) (q.bind.mono t1 fun b' _ q H2 t2 => q _ _ (t1.trans t2) ResOk.flatB)
  | false =>
    rw [if_neg Bool.false_ne_true] at q ⊢
    exact q _ _ t1 ResOk.flatB
theorem pe_or' {a b : Expr} {rest : List Expr} {pos : Pos} (h1 : PE X a (tE k W f)) (h2 : PE X (.BoolOp .Or (b :: rest) pos) (tE k W g)) :
    PE X (.BoolOp .Or (a :: b :: rest) pos) (tE k W fun ρ => (asB (f ρ)).bind fun b => if b then okB true else (asB (g ρ)).bind fun b' => okB b') := by
  refine pe_imp (pe_or h1 h2) fun σ H Q ⟨S, ρ, st, q⟩ => ?_
  refine imp_b (f := f) (k := k) (W := W) (fun _ _ _ q => q) st (q.bind.mono (Same.refl _) fun b _ q H1 t1 => ⟨b, rfl, ?_⟩)
  cases b with
  | true =>
    rw [if_pos rfl] at q ⊢
    exact q _ _ t1 ResOk.flatB
  | false =>
    rw [if_neg Bool.false_ne_true] at q ⊢
    exact imp_b (f := g) (k := k) (W := W) (fun _ _ _ q => q) (st.mono t1) (q.bind.mono t1 fun b' _ q H2 t2 => q _ _ (t1.trans t2) ResOk.flatB)
theorem pe_nt {a : Expr} {pos : Pos} (h1 : PE X a (tE k W f)) : PE X (.UnaryOp .Not a pos) (tE k W fun ρ => (asB (f ρ)).bind fun b => okB (!b)) := by
  refine pe_imp (pe_not h1) fun σ H Q ⟨S, ρ, st, q⟩ => ?_
  exact imp_b (f := f) (k := k) (W := W) (fun _ _ _ q => q) st (q.bind.mono (Same.refl _) fun b _ q H1 t1 => ⟨b, rfl, q _ _ t1 ResOk.flatB⟩)
variable {fb gb : En → R Bool}
theorem asB_okB (b : Bool) : asB (okB b) = .ok b := rfl
theorem tT.eq {f f' : En → R Bool} (h : ∀ ρ, f ρ = f' ρ) {e : Expr} (p : PT X e (tT k W f)) : PT X e (tT k W f') := by
  have : f = f' := funext h
  rw [← this]; exact p
theorem pw_of {op : BoolOp} {es : List Expr} {pos : Pos} {t : TT} (h : PT X (.BoolOp op es pos) t) : PW X (.BoolOp op es pos) t := ⟨fun wh pins s σ H Q I q => h.run pins s σ H Q I q⟩
theorem pt_an {a b : Expr} {rest : List Expr} {pos : Pos} (h1 : PT X a (tT k W fb)) (h2 : PT X (.BoolOp .And (b :: rest) pos) (tT k W gb)) :
    PT X (.BoolOp .And (a :: b :: rest) pos) (tT k W fun ρ => (fb ρ).bind fun b => if b then gb ρ else .ok false) := by
  refine pt_imp (pw_and h1 (pw_of h2)).pt fun σ H Q ⟨S, ρ, st, q⟩ => ?_
  refine ⟨S, ρ, st, q.bind.mono (Same.refl _) fun b _ q H1 t1 => ?_⟩
  cases b with
  | true =>
    rw [if_pos rfl] at q ⊢
    exact ⟨S, ρ, st.mono t1, q.mono t1 fun b' _ q H2 t2 => q _ (t1.trans t2)⟩
  | false =>
    rw [if_neg Bool.false_ne_true] at q ⊢
    exact q _ t1
theorem pt_or' {a b : Expr} {rest : List Expr} {pos : Pos} (h1 : PT X a (tT k W fb)) (h2 : PT X (.BoolOp .Or (b :: rest) pos) (tT k W gb)) :
    PT X (.BoolOp .Or (a :: b :: rest) pos) (tT k W fun ρ => (fb ρ).bind fun b => if b then .ok true else gb ρ) := by
  refine pt_imp (pw_or h1 (pw_of h2)).pt fun σ H Q ⟨S, ρ, st, q⟩ => ?_
  refine ⟨S, ρ, st, q.bind.mono (Same.refl _) fun b _ q H1 t1 => ?_⟩
  cases b with
  | true =>
    rw [if_pos rfl] at q ⊢
    exact q _ t1
  | false =>
    rw [if_neg Bool.false_ne_true] at q ⊢
    exact ⟨S, ρ, st.mono t1, q.mono t1 fun b' _ q H2 t2 => q _ (t1.trans t2)⟩
theorem pt_one' {op : BoolOp} {a : Expr} {pos : Pos} (h1 : PT X a (tT k W fb)) : PT X (.BoolOp op [a] pos) (tT k W fb) := by
  cases op with
  | And => exact (pw_and1 h1).pt
  | Or => exact (pw_or1 h1).pt
theorem pt_nt {a : Expr} {pos : Pos} (h1 : PT X a (tT k W fb)) : PT X (.UnaryOp .Not a pos) (tT k W fun ρ => (fb ρ).bind fun b => .ok (!b)) := by
  refine pt_imp (pt_not h1) fun σ H Q ⟨S, ρ, st, q⟩ => ?_
  exact ⟨S, ρ, st, q.bind.mono (Same.refl _) fun b _ q H1 t1 => q _ t1⟩
theorem pe_it {c a b : Expr} {pos : Pos} (h0 : PT X c (tT k W fb)) (h1 : PE X a (tE k W f)) (h2 : PE X b (tE k W g)) : PE X (.IfExp c a b pos) (tE k W fun ρ => (fb ρ).bind fun b => if b then f ρ else g ρ) := by
  refine pe_imp (pe_ifExp h0 h1 h2) fun σ H Q ⟨S, ρ, st, q⟩ => ?_
  refine ⟨S, ρ, st, q.bind.mono (Same.refl _) fun b _ q H1 t1 => ?_⟩
  cases b with
  | true =>
    rw [if_pos rfl] at q ⊢
    exact ⟨S, ρ, st.mono t1, q.mono t1 fun s _ q v H2 t2 r2 => q v H2 (t1.trans t2) (r2.back t1)⟩
  | false =>
    rw [if_neg Bool.false_ne_true] at q ⊢
    exact ⟨S, ρ, st.mono t1, q.mono t1 fun s _ q v H2 t2 r2 => q v H2 (t1.trans t2) (r2.back t1)⟩

/-! ### two comparisons in a row -/
variable {h : En → R Sl}
theorem imp_chn {o p : B} (hk : X.K = k.K) {σ : St} {H : Hp} {Q : VK} (q : tE k W (fun ρ => (asP (f ρ)).bind fun x => (asP (g ρ)).bind fun y => (asB (bSem o x y)).bind fun b =>
      if b then (asP (h ρ)).bind fun z => (asB (bSem p y z)).bind fun b' => okB b' else okB false) σ H Q) : tChain (rB X.K o) (rB X.K p) (tE k W f) (tE k W g) (tE k W h) σ H Q := by
  obtain ⟨S, ρ, st, q⟩ := q
  rw [hk]
  refine tE.data st (q.bind.mono (Same.refl _) fun x _ q v H1 t1 r1 => ?_)
  refine tE.data (st.mono t1) (q.bind.mono t1 fun y _ q u H2 t2 r2 => ?_)
  have st2 := (st.mono t1).mono t2
  have r1' : Rep k (reg S ρ σ H2) x v := Rep.mono (part_mono t2 fun _ _ _ z => z) r1
  obtain ⟨ne, go⟩ := bOk k o x y
  have q := tR.asB q.bind
  cases e : bSem o x y with
  | ex c => rw [e] at ne; exact ne.elim
  | ask _ _ => rw [e] at ne; exact ne.elim
  | st => rw [e] at q; exact q.elim
  | ok s =>
    rw [e] at q
    obtain ⟨b, rfl, q⟩ := q
    refine go _ e (regP S ρ σ) H2 v u _ (fun a n => st2.fresh n) r1' r2 fun w H3 t3 r3 => ⟨b, r3.bl, ?_⟩
    have t03 := (t1.trans t2).trans t3
    cases b with
    | false =>
      rw [if_neg Bool.false_ne_true] at q ⊢
      exact q _ _ t03 ResOk.flatB
    | true =>
      rw [if_pos rfl] at q ⊢
      refine tE.data (st2.mono t3) (q.bind.mono t03 fun z _ q w H4 t4 r4 => ?_)
      have t04 := t03.trans t4
      obtain ⟨ne2, go2⟩ := bOk k p y z
      have q := tR.asB q.bind
      have r2' : Rep k (reg S ρ σ H4) y u := Rep.mono (part_mono (t3.trans t4) fun _ _ _ z => z) r2
      cases e2 : bSem p y z with
      | ex c => rw [e2] at ne2; exact ne2.elim
      | ask _ _ => rw [e2] at ne2; exact ne2.elim
      | st => rw [e2] at q; exact q.elim
      | ok s2 =>
        rw [e2] at q
        obtain ⟨b', rfl, q⟩ := q
        refine go2 _ e2 (regP S ρ σ) H4 u w _ (fun a n => ((st2.mono t3).mono t4).fresh n) r2' r4 fun w' H5 t5 r5 => ?_
        exact q _ _ (t04.trans t5) (r5.back t04)
theorem marks2 {o p : CmpOp} {a c : Expr} (hc : folB c = true) : lastMarks [o, p] [a, c] = false := by
  show behindInMarks p c = false
  exact fold_marks hc p
theorem pe_ch {o p : B} {op op' : CmpOp} {a c d : Expr} {pos : Pos} (hk : X.K = k.K) (hu : X.A.units + 65 < cLine) (e1 : o.cmp = some op) (e2 : p.cmp = some op') (hd : folB d = true) (h1 : PE X a (tE k W f)) (h2 : PE X c (tE k W g)) (h3 : PE X d (tE k W h)) :
    PE X (.Compare a [op, op'] [c, d] pos) (tE k W fun ρ => (asP (f ρ)).bind fun x => (asP (g ρ)).bind fun y => (asB (bSem o x y)).bind fun b =>
      if b then (asP (h ρ)).bind fun z => (asB (bSem p y z)).bind fun b' => okB b' else okB false) :=
  pe_imp (pe_chain (opR_cmp hu o op e1) (opR_cmp hu p op' e2) h1 h2 h3 (marks2 hd)) fun _ _ _ q => imp_chn hk q
theorem pt_ch {o p : B} {op op' : CmpOp} {a c d : Expr} {pos : Pos} (hk : X.K = k.K) (hu : X.A.units + 65 < cLine) (e1 : o.cmp = some op) (e2 : p.cmp = some op') (hd : folB d = true) (h1 : PE X a (tE k W f)) (h2 : PE X c (tE k W g)) (h3 : PE X d (tE k W h)) :
    PT X (.Compare a [op, op'] [c, d] pos) (tT k W fun ρ => asB ((asP (f ρ)).bind fun x => (asP (g ρ)).bind fun y => (asB (bSem o x y)).bind fun b =>
      if b then (asP (h ρ)).bind fun z => (asB (bSem p y z)).bind fun b' => okB b' else okB false)) :=
  have i : ∀ σ H Q, tE k W (fun ρ => (asP (f ρ)).bind fun x => (asP (g ρ)).bind fun y => (asB (bSem o x y)).bind fun b =>
      if b then (asP (h ρ)).bind fun z => (asB (bSem p y z)).bind fun b' => okB b' else okB false) σ H Q → tChain (rB X.K o) (rB X.K p) (tE k W f) (tE k W g) (tE k W h) σ H Q := fun _ _ _ q => imp_chn hk q
  pt_imp (pt_chain (opR_cmp hu o op e1) (opR_cmp hu p op' e2) h1 h2 h3 (marks2 hd)) fun _ _ _ q => imp_test i q

/-! ### with own lists lent -/
theorem thaw_get (ρ : En) (i : Nat) : (thaw ρ)[i]? = (ρ[i]?).map (Option.map Sl.thaw) := by unfold thaw; rw [List.getElem?_map]
theorem thaw_own {ρ : En} {σ : St} {a : Addr} : ¬ ownA (thaw ρ) σ a := fun ⟨i, s, e, o, _⟩ => by
  rw [thaw_get] at e
  cases q : ρ[i]? with
  | none => rw [q] at e; cases e
  | some u =>
    rw [q] at e
    cases u with
    | none => cases e
    | some t =>
      cases e
      cases o
theorem SlotOk.thaw {G G' H : Hp} {s : Sl} {v : V} (t : Same G G') (u : Same H G') (h : SlotOk k G H s v) : SlotOk k G' H s.thaw v := by
  cases s with
  | v d => exact Rep.mono t h
  | l ds =>
    obtain ⟨a, vs, rfl, q, r⟩ := h
    exact Rep.lst (.inl (.inl (u _ _ q))) (Reps.mono t r)
  | k ft kvs =>
    obtain ⟨a, rfl, q⟩ := h
    show Rep k G' (.dct kvs) (.ref a)
    simp only [Rep]
    refine ⟨a, rfl, ?_⟩
    rcases q with ⟨et, ks, q, r⟩ | ⟨et, ks, q, r⟩
    · exact .inl ⟨ks, .inl (u _ _ q), RepK.mono t r⟩
    · exact .inr ⟨ks, u _ _ q, RepT.mono t r⟩
theorem StOk.lent {S : Sx} {ρ : En} {σ : St} {H : Hp} (st : StOk k S ρ σ H) : StOk k ⟨S.H0, fun _ => True, fun _ => False⟩ (thaw ρ) σ H := by
  have full : Same H (reg ⟨S.H0, fun _ => True, fun _ => False⟩ (thaw ρ) σ H) := fun b o e => by
    exact (part_eq (p := regP ⟨S.H0, fun _ => True, fun _ => False⟩ (thaw ρ) σ) ⟨.inl trivial, id, thaw_own⟩).trans e
  refine ⟨by rw [st.len]; simp [thaw], st.same, fun i s e => ?_, fun a o => absurd o thaw_own, fun _ z => z.elim, fun i j s t a e1 o1 => ?_⟩
  · rw [thaw_get] at e
    cases q : ρ[i]? with
    | none => rw [q] at e; cases e
    | some u =>
      rw [q] at e
      cases u with
      | none => cases e
      | some t =>
        cases e
        obtain ⟨v, e1, r⟩ := st.slot i t q
        exact ⟨v, e1, r.thaw ((StOk.le st).trans full) full⟩
  · rw [thaw_get] at e1
    cases q : ρ[i]? with
    | none => rw [q] at e1; cases e1
    | some u =>
      rw [q] at e1
      cases u with
      | none => cases e1
      | some t =>
        cases e1
        cases o1
theorem pe_bor {e : Expr} (h : PE X e (tE k W f)) : PE X e (tE k W fun ρ => (f (thaw ρ)).bind fun s => match s with
    | .v d => if d.flat then .ok (.v d) else .st
    | _ => .st) := by
  refine pe_imp h fun σ H Q ⟨S, ρ, st, q⟩ => ⟨_, _, st.lent, q.bind.mono (Same.refl _) fun s _ q v H' t r => ?_⟩
  cases s with
  | v d =>
    dsimp only at q
    by_cases hf : d.flat = true
    · rw [if_pos hf] at q
      exact q v H' t (Rep.flat hf r)
    · rw [if_neg hf] at q
      exact q.elim
  | l d => exact q.elim
  | k _ d => exact q.elim
end
end FS

set_option maxRecDepth 100000
set_option autoImplicit false
set_option maxHeartbeats 1000000
/-! isinstance, targets, comprehensions. -/
namespace FS
open PySem PySem.Spec L2

/-! ### isinstance -/
theorem kb {K : PySem.W.Frag} {n m : String} {b : Bool} (hn : n ∈ tyNs) (h : tyB n (.bt m) = some b) : PySem.W.kitOne K (.type n) (.type m) = some b := by
  have go : ∀ m ∈ ["int", "bool", "tuple", "list", "str", "ValueError"], ∀ n ∈ tyNs, kitB n m = tyB n (.bt m) := by decide +kernel
  have hm : m ∈ ["int", "bool", "tuple", "list", "str", "ValueError"] := by
    unfold tyB at h
    simp only at h
    split at h
    · rename_i e; subst e; decide
    · split at h
      · rename_i e; rcases e with e | e | e | e <;> subst e <;> decide
      · split at h
        · rename_i e; subst e; decide
        · cases h
  exact kit_ty ((go m hm n hn).trans h)
section
variable {k : Kx} {G H : Hp}
theorem Rep.ty (s : Same G H) {d : PD} {v : V} {n : String} (h : Rep k G d v) (e : d.tyName = some n) : TyX k.K H v (.type n) ∧ n ∈ tyNs := by
  cases d <;> simp only [PD.tyName, Option.some.injEq, reduceCtorEq] at e <;> subst e
  · rw [h.ofNon]; exact ⟨.base .non, by decide⟩
  · rw [h.ofBl]; exact ⟨.base (.bl _), by decide⟩
  · rw [h.ofInt]; exact ⟨.base (.int _), by decide⟩
  · rw [h.ofStr]; exact ⟨.base (.str _), by decide⟩
  · obtain ⟨a, vs, rfl, q, _⟩ := h.ofTup
    refine ⟨?_, by decide⟩
    rcases q with (q | ⟨o, q⟩) | ⟨o, its, m, q, c, _⟩
    · exact .base (.tup (s _ _ q))
    · exact .fTuple (s _ _ q)
    · exact .kTuple q c
  · obtain ⟨a, vs, rfl, q, _⟩ := h.ofLst
    refine ⟨?_, by decide⟩
    rcases q with (q | ⟨o, q⟩) | ⟨its, m, q, _⟩
    · exact .base (.lst (s _ _ q))
    · exact .base (.frz (s _ _ q))
    · exact .kList q rfl
  · simp only [Rep] at h
    obtain ⟨a, rfl, h⟩ := h
    refine ⟨?_, by decide⟩
    rcases h with ⟨ks, q | ⟨o, q⟩, _⟩ | ⟨ks, q, _⟩
    · exact .base (.dK (s _ _ q))
    · exact .fDict (s _ _ q)
    · exact .base (.dT (s _ _ q))
end
/-- a class as a value -/
def tyVal (k : Kx) : Ty → Value
  | .bt m => .type m
  | .cl j => k.cv j
section
variable {X : Cx} {c : Cc} {g : Gs} {k : Kx} {W : WX} {sc sw : Scope}
/-- isinstance of a refusal -/
def rIx1 (K : PySem.W.Frag) : List V → Hp → VK → Prop := fun xs H Q => ∃ (a D : Addr) (t : V) (u : Value) (b : Bool), xs = [.ref a, t] ∧ H a = some (XO (.ref D) a) ∧ ExcC K D ∧ ClsV t u ∧ PySem.W.kitOne K (.ref D) u = some b ∧ Q (.bl b) H
theorem inst_of {P : Program} {w : World} {H : Hp} {h : Heap} {a D : Addr} (ok : HOk P w H h) (e : H a = some (XO (.ref D) a)) : ∃ oe, PySem.W.InstAt h a oe D none := by
  have q := ok a _ e
  obtain ⟨⟨oe, vs, e1, z, d⟩, _⟩ := (show ObjOk P w H h a (.ext _) from q)
  obtain ⟨oc, od, oda, osl⟩ := oe
  obtain ⟨z1, z2⟩ := z
  dsimp only at z1 z2 d
  subst z1 z2 d
  exact ⟨_, e1, rfl, rfl, trivial⟩
theorem call_ix1 : CallR X (.builtin "isinstance") (rIx1 X.K) := by
  rintro pins s σ H xs us Q I r ⟨a, D, t, u, b, rfl, e, C, ct, kt, q⟩
  obtain ⟨oe, J⟩ := inst_of I.hok e
  cases r with
  | cons r1 r2 =>
    cases r2 with
    | cons r2 r3 =>
      cases r3
      cases r1
      have e2 := ct.eq r2
      subst e2
      exact PySem.W.kia_one (PySem.W.handS_kitx_exc C.hg C.hk C.hs C.hd C.ha C.hn C.ht C.hm) I.kIn J kt (fun z => nomatch z) fun tk => ⟨.bl b, H, I.tok tk, rfl, q⟩
def rIxT (K : PySem.W.Frag) : List V → Hp → VK → Prop := fun xs H Q => ∃ (a D tp : Addr) (cs : List V) (us : List Value) (b : Bool), xs = [.ref a, .ref tp] ∧ H a = some (XO (.ref D) a) ∧ ExcC K D ∧ H tp = some (.tup cs) ∧ Paired ClsV cs us ∧
  PySem.W.kitAny K (.ref D) us = some b ∧ Q (.bl b) H
theorem call_ixT : CallR X (.builtin "isinstance") (rIxT X.K) := by
  rintro pins s σ H xs us Q I r ⟨a, D, tp, cs, ws, b, rfl, e, C, hT, ct, kt, q⟩
  obtain ⟨oe, J⟩ := inst_of I.hok e
  obtain ⟨_, its, rv, o, h1, h2, n, h3⟩ := (show ObjOk X.prog X.w H s.heap tp (.tup cs) from I.hok tp _ hT)
  have e3 := ClsV.all ct rv
  subst e3
  obtain ⟨oc, od, dt, sl⟩ := o
  dsimp only at h2 h3
  subst h2 h3
  cases r with
  | cons r1 r2 =>
    cases r2 with
    | cons r2 r3 =>
      cases r3
      cases r1
      cases (show _ = Value.ref tp from r2)
      exact PySem.W.kia_tup (PySem.W.handS_kitx_exc C.hg C.hk C.hs C.hd C.ha C.hn C.ht C.hm) I.kIn J h1 kt (fun z => nomatch z) fun tk => ⟨.bl b, H, I.tok tk, rfl, q⟩

theorem OkQ.clsAt (o : OkQ c g k sc sw X) {j : Nat} (h : j < g.nc) : ∃ x, c.cls[j]? = some x := by
  have := o.ncl
  exact ⟨_, List.getElem?_eq_getElem (by omega)⟩
theorem isi_dat (o : OkQ c g k sc sw X) {d : PD} {n : String} {t : Ty} {b : Bool} (hd : d.tyName = some n) (h : isiS g d t = some b) (ht : ∀ j, t = .cl j → ∃ x, c.cls[j]? = some x) : PySem.W.kitOne X.K (.type n) (tyVal k t) = some b := by
  have e : tyB n t = some b := by
    cases d <;> cases hd <;> exact h
  have hn : n ∈ tyNs := by
    cases d <;> cases hd <;> decide
  cases t with
  | bt m => exact kb hn e
  | cl j =>
    cases e
    obtain ⟨x, ex⟩ := ht j rfl
    obtain ⟨C, e1, _, _, _, _, e2, _⟩ := o.cls j x ex
    show PySem.W.kitOne X.K (.type n) (k.cv j) = some false
    rw [e1]; exact e2 n hn
theorem isi_exn (o : OkQ c g k sc sw X) {i : Nat} (hi : i < g.nc) : ∃ D, k.cv i = .ref D ∧ ExcC X.K D ∧ ∀ t b, isiS g (.exn i) t = some b → PySem.W.kitOne X.K (.ref D) (tyVal k t) = some b := by
  obtain ⟨x, ex⟩ := o.clsAt hi
  obtain ⟨C, e1, _, _, _, _, _, e3, e5⟩ := o.cls i x ex
  refine ⟨C, e1, e3, fun t b h => ?_⟩
  cases t with
  | cl j =>
    simp only [isiS] at h
    split at h
    · rename_i hh
      cases h
      obtain ⟨y, ey⟩ := o.clsAt hh.2
      have e4 := o.sub i j x y ex ey
      rw [e1] at e4
      exact e4
    · cases h
  | bt m =>
    simp only [isiS] at h
    split at h
    · rename_i hh
      cases h
      show PySem.W.kitOne X.K (.ref C) (.type m) = some true
      rw [hh.2]; exact e5
    · cases h
theorem isi_nc {d : PD} {t : Ty} {b : Bool} (h : isiS g d t = some b) : (∃ n, d.tyName = some n) ∨ ∃ i, d = .exn i ∧ i < g.nc := by
  cases d
  case exn i =>
    refine .inr ⟨i, rfl, ?_⟩
    cases t <;> simp only [isiS] at h <;> split at h <;> first | (rename_i hh; exact hh.1) | cases h
  case pot => cases t <;> cases h
  all_goals exact .inl ⟨_, rfl⟩
/-- the names of classes, as they are written -/
def tyC (c : Cc) (sc : Scope) : Ty → Expr → Bool
  | .bt m, .Name x _ => decide (x = Str.ofString m) && decide (x ∈ c.bn) && glB sc x && okN x && decide (m ∈ ["int", "bool", "tuple", "list", "str", "ValueError"])
  | .cl j, .Name x _ => decide (c.cls[j]? = some x) && glB sc x && okN x
  | _, _ => false
def tysC (c : Cc) (sc : Scope) : List Ty → List Expr → Bool
  | [], [] => true
  | t :: ts, e :: es => tyC c sc t e && tysC c sc ts es
  | _, _ => false
theorem ty_cl {t : Ty} {e : Expr} (h : tyC c sc t e = true) : ∀ j, t = .cl j → ∃ x, c.cls[j]? = some x := by
  rintro j rfl
  cases e <;> simp only [tyC, Bool.and_eq_true, decide_eq_true_eq, reduceCtorEq] at h
  exact ⟨_, h.1.1⟩
theorem pe_ty (o : OkQ c g k sc sw X) {t : Ty} {e : Expr} (h : tyC c sc t e = true) : ∃ v, PE X e (tC v) ∧ ClsV v (tyVal k t) := by
  cases t with
  | bt m =>
    cases e <;> simp only [tyC, Bool.and_eq_true, decide_eq_true_eq, reduceCtorEq] at h
    rename_i x p
    obtain ⟨⟨⟨⟨h1, h2⟩, h3⟩, h4⟩, h5⟩ := h
    have n := okN_dbg h4
    have hb : bootBuiltins x = some (.type m) := by
      subst h1
      simp only [List.mem_cons, List.not_mem_nil, or_false] at h5
      rcases h5 with h5 | h5 | h5 | h5 | h5 | h5 <;> subst h5 <;> decide +kernel
    exact ⟨.ty m, pe_bltn (gl_of o.hsc h3) (o.bn x h2) hb rfl n.2.2 n.1, .ty m⟩
  | cl j =>
    cases e <;> simp only [tyC, Bool.and_eq_true, decide_eq_true_eq, reduceCtorEq] at h
    rename_i x p
    obtain ⟨⟨h1, h3⟩, h4⟩ := h
    obtain ⟨C, e1, e2, _⟩ := o.cls j x h1
    refine ⟨.ref C, pe_glob (gl_of o.hsc h3) e2 rfl (okN_dbg h4).1, ?_⟩
    show ClsV (.ref C) (k.cv j)
    rw [e1]; exact .own C
theorem tyC_ns {t : Ty} {e : Expr} (h : tyC c sc t e = true) : nsB e = true := by
  cases t <;> cases e <;> simp only [tyC, reduceCtorEq] at h <;> rfl
theorem pa_tys (o : OkQ c g k sc sw X) : ∀ {ts : List Ty} {es : List Expr}, tysC c sc ts es = true → ∃ vs, PA X es (fun _ H Q => Q vs H) ∧ Paired ClsV vs (ts.map (tyVal k)) ∧ vs.length = ts.length ∧ es.all nsB = true
  | [], [], _ => ⟨[], pa_nil, .nil, rfl, rfl⟩
  | t :: ts, e :: es, h => by
    simp only [tysC, Bool.and_eq_true] at h
    obtain ⟨v, h1, c1⟩ := pe_ty o h.1
    obtain ⟨vs, h2, c2, l2, n2⟩ := pa_tys o h.2
    refine ⟨v :: vs, pa_imp (pa_cons h1 h2 (star_ns (tyC_ns h.1) _ _)) fun σ H Q q => q, .cons c1 c2, by simp [l2], ?_⟩
    rw [List.all_cons, tyC_ns h.1, n2]; rfl
  | [], _ :: _, h => by cases h
  | _ :: _, [], h => by cases h
variable {f : En → R Sl}
theorem any_dat (o : OkQ c g k sc sw X) {d : PD} {n : String} (hd : d.tyName = some n) : ∀ {ts : List Ty} {es : List Expr} {b : Bool}, isiAny g d ts = some b → tysC c sc ts es = true → PySem.W.kitAny X.K (.type n) (ts.map (tyVal k)) = some b
  | [], [], _, h, _ => by cases h; rfl
  | t :: ts, e :: es, b, h, hc => by
    simp only [tysC, Bool.and_eq_true] at hc
    simp only [isiAny] at h
    cases q : isiS g d t with
    | none => rw [q] at h; cases h
    | some b1 =>
      rw [q] at h
      have e2 := isi_dat o hd q (ty_cl hc.1)
      cases b1 with
      | true => cases h; simp only [List.map_cons, PySem.W.kitAny, e2]
      | false => simp only [List.map_cons, PySem.W.kitAny, e2]; exact any_dat o hd h hc.2
  | [], _ :: _, _, _, hc => by cases hc
  | _ :: _, [], _, _, hc => by cases hc
theorem any_exn {i : Nat} {D : Addr} (q0 : ∀ t b, isiS g (.exn i) t = some b → PySem.W.kitOne X.K (.ref D) (tyVal k t) = some b) : ∀ {ts : List Ty} {b : Bool}, isiAny g (.exn i) ts = some b → PySem.W.kitAny X.K (.ref D) (ts.map (tyVal k)) = some b
  | [], _, h => by cases h; rfl
  | t :: ts, b, h => by
    simp only [isiAny] at h
    cases q : isiS g (.exn i) t with
    | none => rw [q] at h; cases h
    | some b1 =>
      rw [q] at h
      have e2 := q0 _ _ q
      cases b1 with
      | true => cases h; simp only [List.map_cons, PySem.W.kitAny, e2]
      | false => simp only [List.map_cons, PySem.W.kitAny, e2]; exact any_exn q0 h
theorem any_nc {d : PD} : ∀ {ts : List Ty} {b : Bool}, ts ≠ [] → isiAny g d ts = some b → (∃ n, d.tyName = some n) ∨ ∃ i, d = .exn i ∧ i < g.nc
  | [], _, z, _ => absurd rfl z
  | t :: ts, b, _, h => by
    simp only [isiAny] at h
    cases q : isiS g d t with
    | none => rw [q] at h; cases h
    | some b1 => exact isi_nc q
theorem any_one {d : PD} {t : Ty} {b : Bool} (h : isiAny g d [t] = some b) : isiS g d t = some b := by
  simp only [isiAny] at h
  cases q : isiS g d t with
  | none => rw [q] at h; cases h
  | some b1 => rw [q] at h; cases b1 <;> exact h
def isiE (g : Gs) (ts : List Ty) (f : En → R Sl) : En → R Sl := fun ρ => (asP (f ρ)).bind fun x => match isiAny g x ts with
  | some b => okB b
  | none => .st
theorem isiE_ok {ts : List Ty} {S : Sx} {ρ : En} {σ : St} {H : Hp} {Q : VK} {x : PD} (q : tR k W σ H (match isiAny g x ts with
  | some b => okB b
  | none => .st) fun s => ∀ v H', Same H H' → ResOk k (regP S ρ σ) H H' s v → Q v H') : ∃ b, isiAny g x ts = some b ∧ ∀ H', Same H H' → Q (.bl b) H' := by
  cases e : isiAny g x ts with
  | none => rw [e] at q; exact q.elim
  | some b => rw [e] at q; exact ⟨b, rfl, fun H' t => q _ H' t (show Rep k (part (regP S ρ σ) H') (.bl b) (.bl b) from Rep.bl)⟩
theorem xo_of {p : Addr → Prop} {H : Hp} {i : Nat} {D : Addr} {v : V} (e : k.cv i = .ref D) (r : Rep k (part p H) (.exn i) v) : ∃ a, v = .ref a ∧ H a = some (XO (.ref D) a) := by
  obtain ⟨a, rfl, q⟩ := (show ∃ a, v = .ref a ∧ part p H a = some (XO (k.cv i) a) by simpa only [Rep] using r)
  rw [e] at q
  exact ⟨a, rfl, (part_some q).2⟩
theorem pe_is1 (o : OkQ c g k sc sw X) {t : Ty} {e T : Expr} {p pos : Pos} (hg : glB sc "isinstance" = true) (hm : ("isinstance" : Str) ∈ c.bn) (hn : nsB e = true) (hT : tyC c sc t T = true) (h : PE X e (tE k W f)) :
    PE X (.Call (.Name "isinstance" p) [e, T] [] pos) (tE k W (isiE g [t] f)) := by
  obtain ⟨cv, hc, cl⟩ := pe_ty o hT
  have ha : PA X [e, T] (tCons (tE k W f) (tCons (tC cv) tNil)) := pa_cons h (pa_cons hc pa_nil (star_ns (tyC_ns hT) _ _)) (star_ns hn _ _)
  refine pe_imp (pe_callB (call_isi.or call_ix1) (gl_of o.hsc hg) (o.bn _ hm) PyProof.Rows.boot_isinstance ha (by decide) (by decide) (star_ns hn _ _) (by rw [star_ns (tyC_ns hT)]; rfl)) fun σ H Q ⟨S, ρ, st, q⟩ => ?_
  refine tE.data st (q.bind.mono (Same.refl _) fun x _ q v H1 t1 r1 => ?_)
  obtain ⟨b, e1, q'⟩ := isiE_ok q
  clear q
  have e1 := any_one e1
  rcases isi_nc e1 with ⟨n, hd⟩ | ⟨i, rfl, hi⟩
  · refine .inl ⟨v, cv, _, _, b, rfl, cl, ?_, isi_dat o hd e1 (ty_cl hT), q' _ t1⟩
    rw [o.hK]; exact (Rep.ty part_le r1 hd).1
  · obtain ⟨D, eD, xc, go⟩ := isi_exn o hi
    obtain ⟨a, rfl, ea⟩ := xo_of eD r1
    exact .inr ⟨a, D, cv, _, b, rfl, ea, xc, cl, go _ _ e1, q' _ t1⟩
theorem pe_isT (o : OkQ c g k sc sw X) {ts : List Ty} {e : Expr} {es : List Expr} {kk : Nat} {p p2 pos : Pos} (hg : glB sc "isinstance" = true) (hm : ("isinstance" : Str) ∈ c.bn) (hn : nsB e = true) (hl : ts.length ≤ 100) (hz : ts ≠ []) (hT : tysC c sc ts es = true) (h : PE X e (tE k W f)) :
    PE X (.Call (.Name "isinstance" p) [e, .Tuple es kk p2] [] pos) (tE k W (isiE g ts f)) := by
  obtain ⟨vs, hc, cl, le, _⟩ := pa_tys o hT
  have ha : PA X [e, .Tuple es kk p2] (tCons (tE k W f) (tCons (tTup (fun _ H Q => Q vs H)) tNil)) := pa_cons h (pa_cons (pe_tup hc) pa_nil) (star_ns hn _ _)
  refine pe_imp (pe_callB (call_isiT.or call_ixT) (gl_of o.hsc hg) (o.bn _ hm) PyProof.Rows.boot_isinstance ha (by decide) (by decide) (star_ns hn _ _)) fun σ H Q ⟨S, ρ, st, q⟩ => ?_
  refine tE.data st (q.bind.mono (Same.refl _) fun x _ q v H1 t1 r1 => ⟨?_, fun tp np => ?_⟩)
  · rw [le]
    exact Nat.le_trans hl (by decide)
  obtain ⟨b, e1, q'⟩ := isiE_ok q
  clear q
  have t2 := same_new (o := HO.tup vs) np
  rcases any_nc hz e1 with ⟨n, hd⟩ | ⟨i, rfl, hi⟩
  · refine .inl ⟨v, tp, vs, _, _, b, rfl, upd_same, cl, ?_, any_dat o hd e1 hT, q' _ (t1.trans t2)⟩
    rw [o.hK]; exact (Rep.ty (part_le.trans t2) r1 hd).1
  · obtain ⟨D, eD, xc, go⟩ := isi_exn o hi
    obtain ⟨a, rfl, ea⟩ := xo_of eD r1
    exact .inr ⟨a, D, tp, vs, _, b, rfl, t2 _ _ ea, xc, upd_same, cl, any_exn go e1, q' _ (t1.trans t2)⟩
end
end FS

set_option maxRecDepth 100000
set_option autoImplicit false
set_option maxHeartbeats 2000000
/-! (a, b, ..) = a list. -/
namespace FS
open PySem PySem.Spec L2 PyProof.Rows
section
variable {prog : Program} {w : World} {A : Around} {E : Value → Shared → Prop} {s : Shared}
theorem draw_lst {it t : Addr} {items : Array Value} (hne : t ≠ it) : ∀ (n i : Nat) (s : Shared) (Q : List Value → Shared → Prop), s.heap.IsListIter it t i → s.heap.IsList t items → i + n ≤ items.size →
    (∀ h', h'.IsListIter it t (i + n) → Heap.SameBut it s.heap h' → Q ((items.toList.drop i).take n) { s with heap := h' }) → wpAny (model prog w) A (draw (.ref it) n) Q E s
  | 0, i, s, Q, hit, _, _, hQ => by
    show wpAny _ _ (pure []) Q E s
    exact wpAny_pure (by simpa using hQ s.heap hit (Heap.SameBut.refl ..))
  | n + 1, i, s, Q, hit, ht, hle, hQ => by
    have hlt : i < items.size := by omega
    show wpAny _ _ (pyNext (.ref it) >>= _) Q E s
    refine wpAny_bind (wpAny_pyNext_list_item hit ht (x := items[i]) (by simp [hlt]) fun h₁ hit₁ hs₁ => ?_)
    refine wpAny_bind (wpAny_holding (draw_lst hne n (i + 1) _ _ hit₁ (ht.extBut hs₁.extBut hne) (by omega) fun h₂ hit₂ hs₂ => wpAny_pure ?_))
    have hd : items.toList.drop i = items[i] :: items.toList.drop (i + 1) := by simp [List.drop_eq_getElem_cons, hlt]
    have := hQ h₂ (by rw [show i + (n + 1) = i + 1 + n by omega]; exact hit₂) (hs₁.trans hs₂)
    rw [hd, List.take_succ_cons] at this
    exact this
theorem unpackItems_lst {t : Addr} {items : Array Value} {Q : List Value → Shared → Prop} (hh : A.handled = none) (ht : s.heap.IsList t items)
    (hQ : ∀ h', Heap.ExtBut s.heap.objs.size s.heap h' → Q items.toList { s with heap := h' }) : wpAny (model prog w) A (unpackItems (.ref t) items.size none) Q E s := by
  have hlt : t ≠ s.heap.objs.size := by obtain ⟨o, ho, _⟩ := ht; exact Nat.ne_of_lt (Heap.lt_size ho)
  unfold unpackItems
  refine wpAny_bind ?_
  · unfold notIterableAtAll
    refine wpAny_bind (wpAny_specialOf ht.typeIs slot_list_iter.lookup ?_)
    refine wpAny_pure ?_
    simp only [Bool.false_eq_true, if_false]
    refine wpAny_bind (wpAny_holding (wpAny_pyIter_list ht ?_))
    refine wpAny_bind (wpAny_holding (draw_lst hlt items.size 0 _ _ ⟨_, Heap.get?_push_size _ rfl, rfl, rfl⟩ (ht.push _) (by omega) fun h₁ hit₁ hs₁ => ?_))
    have hall : List.take items.size (List.drop 0 items.toList) = items.toList := by
      rw [List.drop_zero]; exact List.take_of_length_le (by simp)
    rw [hall]
    rw [if_neg (by simp)]
    have ht₁ : h₁.IsList t items := (ht.push _).extBut hs₁.extBut hlt
    refine wpAny_bind (wpAny_holding (wpAny_pyNext_list_end hh hit₁ ht₁ (by simp) fun h₂ he₂ => ?_))
    simp only [Option.isSome_none, Bool.false_eq_true, if_false]
    refine wpAny_pure (hQ h₂ fun b o hb e => he₂ b o hb (hs₁.extBut b o hb (Heap.get?_push_of_some _ e)))
theorem unpack_lst {t : Addr} {items : Array Value} {targets : List (Bool × (Value → Sem Unit))} {Q : Unit → Shared → Prop} (hh : A.handled = none) (ht : s.heap.IsList t items)
    (hn : targets.length = items.size) (hstar : targets.findIdx? (·.1) = none)
    (h : ∀ h', Heap.ExtBut s.heap.objs.size s.heap h' → wpAny (model prog w) A (assignInOrder (targets.map (·.2)) items.toList) Q E { s with heap := h' }) :
    wpAny (model prog w) A (unpack (.ref t) targets) Q E s := by
  unfold unpack
  rw [hn, hstar]
  exact wpAny_bind (wpAny_holding (unpackItems_lst hh ht h))
theorem assign_Tuple_lst {env : Env} {elts : List Expr} {x1} {pos : Pos} {t : Addr} {items : Array Value} {Q : Unit → Shared → Prop} (hh : A.handled = none) (ht : s.heap.IsList t items)
    (hn : (assignEach elts env).length = items.size) (hstar : (assignEach elts env).findIdx? (·.1) = none)
    (h : ∀ h', Heap.ExtBut s.heap.objs.size s.heap h' → wpAny (model prog w) A (assignInOrder ((assignEach elts env).map (·.2)) items.toList) Q E { s with heap := h' }) :
    wpAny (model prog w) A (assign (.Tuple elts x1 pos) env (.ref t)) Q E s := by
  rw [assign_Tuple]
  exact wpAny_bind (wpAny_standAt (unpack_lst hh ht hn hstar h))
end
/-- (a, b, ..) = a tuple or a list of that length -/
def gSq (K : PySem.W.Frag) (n : Nat) (t : TGs) : TG := fun v σ H Q => ∃ a xs, v = .ref a ∧ (SqT K H a xs ∨ SqL K H a xs) ∧ xs.length = n ∧ t xs σ H Q
theorem pg_sq {X : Cx} {pos : Pos} {es : List Expr} {k : Nat} {t : TGs} {n : Nat} (hc : X.calm = true) (h : PGs X es t)
    (hn : (assignEach es X.env).length = n) (hst : (assignEach es X.env).findIdx? (·.1) = none) : PG X (.Tuple es k pos) (gSq X.K n t) := by
  refine ⟨fun pins s σ H v u Q I r hw => ?_⟩
  obtain ⟨a, xs, e1, hq, hl, hw⟩ := hw
  subst e1
  cases r
  rcases hq with hq | hq
  · obtain ⟨its, rv, ht, hz⟩ := I.tuple hq
    refine assign_Tuple_tuple (I.ok.hd hc) ht (by simp [hn, ← hl, rv.length]) hst fun h' hx => ?_
    have I1 : Inv X pins σ H { s with heap := h' } := I.kept (t' := s.toks) fun b o e => hx b o (Nat.ne_of_lt (Heap.lt_size e)) e
    exact h.run pins _ σ H xs _ Q I1 (by simpa using rv) hw
  · obtain ⟨its, rv, ht, hz⟩ := I.list hq
    refine assign_Tuple_lst (I.ok.hd hc) ht.isList (by simp [hn, ← hl, rv.length]) hst fun h' hx => ?_
    have I1 : Inv X pins σ H { s with heap := h' } := I.kept (t' := s.toks) fun b o e => hx b o (Nat.ne_of_lt (Heap.lt_size e)) e
    exact h.run pins _ σ H xs _ Q I1 (by simpa using rv) hw
end FS

set_option maxRecDepth 100000
set_option autoImplicit false
set_option maxHeartbeats 1000000
/-! Targets, comprehensions. -/
namespace FS
open PySem PySem.Spec L2

/-! ### slots set, slots wiped -/
section
variable {k : Kx} {S : Sx} {ρ : En} {σ : St} {H : Hp}
theorem StOk.keepS {ρ' : En} {σ' : St} (st : StOk k S ρ σ H) (hl : σ'.length = ρ'.length)
    (hs : ∀ (i : Nat) (s : Sl), ρ'[i]? = some (some s) → (ρ[i]? = some (some s) ∧ σ'[i]? = σ[i]?) ∨ (∃ d v, s = .v d ∧ σ'[i]? = some (some v) ∧ Rep k (reg S ρ σ H) d v)) :
    StOk k S ρ' σ' H ∧ Same (reg S ρ σ H) (reg S ρ' σ' H) := by
  have own : ∀ (i : Nat) (s : Sl), ρ'[i]? = some (some s) → s.isOwn = true → ρ[i]? = some (some s) ∧ σ'[i]? = σ[i]? := fun i s e o => by
    rcases hs i s e with h | ⟨d, v, rfl, _⟩
    · exact h
    · cases o
  have ow : ∀ a, ownA ρ' σ' a → ownA ρ σ a := fun a ⟨i, s, e, o, z⟩ => by
    obtain ⟨e1, e2⟩ := own i s e o
    exact ⟨i, s, e1, o, e2 ▸ z⟩
  have sm : Same (reg S ρ σ H) (reg S ρ' σ' H) := part_mono (Same.refl _) fun a _ _ z => ⟨z.1, z.2.1, fun o => z.2.2 (ow a o)⟩
  refine ⟨⟨hl, st.same, fun i s e => ?_, fun a o => st.new a (ow a o), st.hid, fun i j s t a e o e' o' z z' => ?_⟩, sm⟩
  · rcases hs i s e with ⟨e1, e2⟩ | ⟨d, v, rfl, e1, r⟩
    · obtain ⟨v, e3, q⟩ := st.slot i s e1
      exact ⟨v, e2.trans e3, q.mono sm (Same.refl _)⟩
    · exact ⟨v, e1, Rep.mono sm r⟩
  · obtain ⟨e1, e2⟩ := own i s e o
    obtain ⟨e3, e4⟩ := own j t e' o'
    exact st.inj i j s t a e1 o e3 o' (e2 ▸ z) (e4 ▸ z')
theorem StOk.setV (st : StOk k S ρ σ H) {d : PD} {v : V} (r : Rep k (reg S ρ σ H) d v) (i : Nat) : StOk k S (ρ.set i (some (.v d))) (σ.set i (some v)) H ∧ Same (reg S ρ σ H) (reg S (ρ.set i (some (.v d))) (σ.set i (some v)) H) := by
  refine st.keepS (by simp [st.len]) fun j s e => ?_
  by_cases hj : i = j
  · subst hj
    by_cases hi : i < ρ.length
    · rw [List.getElem?_set_self hi] at e
      cases e
      exact .inr ⟨d, v, rfl, by rw [List.getElem?_set_self (by rw [st.len]; exact hi)], r⟩
    · rw [List.getElem?_eq_none (by simpa using hi)] at e
      cases e
  · rw [List.getElem?_set_ne hj] at e
    exact .inl ⟨e, List.getElem?_set_ne hj⟩
theorem StOk.setN (st : StOk k S ρ σ H) (i : Nat) (u : Option V) : StOk k S (ρ.set i none) (σ.set i u) H ∧ Same (reg S ρ σ H) (reg S (ρ.set i none) (σ.set i u) H) := by
  refine st.keepS (by simp [st.len]) fun j s e => ?_
  by_cases hj : i = j
  · subst hj
    by_cases hi : i < ρ.length
    · rw [List.getElem?_set_self hi] at e
      cases e
    · rw [List.getElem?_eq_none (by simpa using hi)] at e
      cases e
  · rw [List.getElem?_set_ne hj] at e
    exact .inl ⟨e, List.getElem?_set_ne hj⟩
theorem StOk.wiped (st : StOk k S ρ σ H) : ∀ vs : List Nat, StOk k S (wipeE ρ vs) (wipe σ vs) H ∧ Same (reg S ρ σ H) (reg S (wipeE ρ vs) (wipe σ vs) H)
  | [] => ⟨st, Same.refl _⟩
  | v :: vs => by
    obtain ⟨s1, m1⟩ := StOk.wiped st vs
    obtain ⟨s2, m2⟩ := s1.setN v none
    exact ⟨s2, m1.trans m2⟩
end
theorem wipe_get {σ : St} {i : Nat} : ∀ {vs : List Nat}, (wipe σ vs)[i]? = if i ∈ vs then (if i < σ.length then some none else none) else σ[i]?
  | [] => by simp [wipe]
  | v :: vs => by
    show ((wipe σ vs).set v none)[i]? = _
    have ih := @wipe_get σ i vs
    by_cases h : v = i
    · subst h
      have hl : (wipe σ vs).length = σ.length := wipe_length _ _
      by_cases hi : v < σ.length
      · rw [List.getElem?_set_self (by rw [hl]; exact hi)]; simp [hi]
      · rw [List.getElem?_eq_none (by simp [hl]; omega)]; simp [hi]
    · rw [List.getElem?_set_ne h, ih]
      have : i ∈ v :: vs ↔ i ∈ vs := by simp [Ne.symm h]
      by_cases hm : i ∈ vs
      · rw [if_pos hm, if_pos (this.mpr hm)]
      · rw [if_neg hm, if_neg fun z => hm (this.mp z)]
theorem wipe_set {σ : St} {i : Nat} {u : Option V} {vs : List Nat} (h : i ∈ vs) : wipe (σ.set i u) vs = wipe σ vs := by
  apply List.ext_getElem?
  intro j
  rw [wipe_get, wipe_get]
  by_cases hj : j ∈ vs
  · rw [if_pos hj, if_pos hj, List.length_set]
  · rw [if_neg hj, if_neg hj]
    exact List.getElem?_set_ne fun e => hj (by rw [← e]; exact h)
theorem wipe_wipe {σ : St} {vs : List Nat} : wipe (wipe σ vs) vs = wipe σ vs := by
  apply List.ext_getElem?
  intro j
  rw [wipe_get, wipe_get, wipe_length]
  by_cases hj : j ∈ vs <;> simp [hj]

/-! ### targets -/
def Tg.len : Tg → Nat
  | .nil => 0
  | .cons _ ts => ts.len + 1
  | _ => 0
mutual
def gT (K : PySem.W.Frag) : Tg → TG
  | .nm i => gName i
  | .tp ts => gSq K ts.len (gTs K ts)
  | _ => fun _ _ _ _ => False
def gTs (K : PySem.W.Frag) : Tg → TGs
  | .nil => gNil
  | .cons t ts => gCons (gT K t) (gTs K ts)
  | _ => fun _ _ _ _ => False
end
mutual
def chG (c : Cc) (sw : Scope) : Tg → Expr → Bool
  | .nm i, .Name x _ => decide (c.N[i]? = some x) && wrB sw x
  | .tp ts, .Tuple es _ _ => chGs c sw ts es
  | _, _ => false
def chGs (c : Cc) (sw : Scope) : Tg → List Expr → Bool
  | .nil, [] => true
  | .cons t ts, e :: es => nsB e && chG c sw t e && chGs c sw ts es
  | _, _ => false
end
def Tg.slots : Tg → List Nat
  | .nm i => [i]
  | .tp ts => ts.slots
  | .nil => []
  | .cons t ts => t.slots ++ ts.slots
theorem asg_ns {e : Expr} (h : nsB e = true) (es : List Expr) (env : Env) : assignEach (e :: es) env = (false, assign e env) :: assignEach es env := by
  cases e <;> first | rfl | cases h
section
variable {X : Cx} {c : Cc} {sw : Scope}
theorem chGs_len : ∀ {ts : Tg} {es : List Expr} {env : Env}, chGs c sw ts es = true → (assignEach es env).length = ts.len ∧ (assignEach es env).findIdx? (·.1) = none
  | .nil, [], _, _ => ⟨rfl, rfl⟩
  | .cons t ts, e :: es, env, h => by
    simp only [chGs, Bool.and_eq_true] at h
    obtain ⟨i1, i2⟩ := chGs_len (env := env) h.2
    rw [asg_ns h.1.1]
    refine ⟨by simp [i1, Tg.len], ?_⟩
    rw [List.findIdx?_cons, i2]; rfl
  | .nm _, _, _, h => by simp only [chGs] at h; cases h
  | .tp _, _, _, h => by simp only [chGs] at h; cases h
  | .nil, _ :: _, _, h => by simp only [chGs] at h; cases h
  | .cons _ _, [], _, h => by simp only [chGs] at h; cases h
mutual
theorem pg_T (hN : X.N = c.N) (nd : c.N.Nodup) (calm : X.calm = true) (wr : ∀ x, wrB sw x = true → Loc X.env.scope x ∧ (X.fn x = true ∨ X.env.scope.names.lookup x = some .local)) : ∀ {t : Tg} {e : Expr}, chG c sw t e = true → PG X e (gT X.K t)
  | .nm i, e, h => by
    cases e <;> simp only [chG, Bool.and_eq_true, decide_eq_true_eq, reduceCtorEq] at h
    rw [gT]
    obtain ⟨w1, w2⟩ := wr _ h.2
    exact pg_name (by rw [hN]; exact nd) (by rw [hN]; exact h.1) w1 w2
  | .tp ts, e, h => by
    cases e <;> simp only [chG, reduceCtorEq] at h
    rw [gT]
    obtain ⟨l1, l2⟩ := chGs_len (env := X.env) h
    exact pg_sq calm (pgs_T hN nd calm wr h) l1 l2
  | .nil, e, h => by cases e <;> simp only [chG, reduceCtorEq] at h
  | .cons _ _, e, h => by cases e <;> simp only [chG, reduceCtorEq] at h
theorem pgs_T (hN : X.N = c.N) (nd : c.N.Nodup) (calm : X.calm = true) (wr : ∀ x, wrB sw x = true → Loc X.env.scope x ∧ (X.fn x = true ∨ X.env.scope.names.lookup x = some .local)) : ∀ {t : Tg} {es : List Expr}, chGs c sw t es = true → PGs X es (gTs X.K t)
  | .nil, [], _ => by rw [gTs]; exact pgs_nil
  | .cons t ts, e :: es, h => by
    simp only [chGs, Bool.and_eq_true] at h
    rw [gTs]
    exact pgs_cons (pg_T hN nd calm wr h.1.2) (pgs_T hN nd calm wr h.2) (by rw [asg_ns h.1.1]; rfl)
  | .nm _, es, h => by simp only [chGs] at h; cases h
  | .tp _, es, h => by simp only [chGs] at h; cases h
  | .nil, _ :: _, h => by simp only [chGs] at h; cases h
  | .cons _ _, [], h => by simp only [chGs] at h; cases h
end
end
section
variable {k : Kx} {S : Sx} {H : Hp}
theorem bindTs_len : ∀ {ts : Tg} {ds : List PD} {ρ ρ' : En}, bindTs ts ds ρ = .ok ρ' → ds.length = ts.len
  | .nil, [], _, _, _ => rfl
  | .cons t ts, d :: ds, ρ, ρ', h => by
    simp only [bindTs] at h
    cases e : bindT t d ρ with
    | ok ρ1 => rw [e] at h; simp [Tg.len, bindTs_len h]
    | ex _ => rw [e] at h; cases h
    | ask _ _ => rw [e] at h; cases h
    | st => rw [e] at h; cases h
  | .nm _, _, _, _, h => by simp only [bindTs] at h; cases h
  | .tp _, _, _, _, h => by simp only [bindTs] at h; cases h
  | .nil, _ :: _, _, _, h => by simp only [bindTs] at h; cases h
  | .cons _ _, [], _, _, h => by simp only [bindTs] at h; cases h
def GoodB (k : Kx) (S : Sx) (H : Hp) (ρ ρ' : En) (σ σ' : St) (sl : List Nat) : Prop :=
  StOk k S ρ' σ' H ∧ Same (reg S ρ σ H) (reg S ρ' σ' H) ∧ ∀ vs : List Nat, (∀ i ∈ sl, i ∈ vs) → wipe σ' vs = wipe σ vs
mutual
theorem imp_T : ∀ {t : Tg} {d : PD} {v : V} {ρ ρ' : En} {σ : St} {Q : St → Hp → Prop}, StOk k S ρ σ H → Rep k (reg S ρ σ H) d v → bindT t d ρ = .ok ρ' → (∀ σ', GoodB k S H ρ ρ' σ σ' t.slots → Q σ' H) → gT k.K t v σ H Q
  | .nm i, d, v, ρ, ρ', σ, Q, st, r, e, q => by
    simp only [bindT] at e
    cases e
    rw [gT]
    obtain ⟨s1, m1⟩ := st.setV r i
    exact q _ ⟨s1, m1, fun vs hv => wipe_set (hv i (by simp [Tg.slots]))⟩
  | .tp ts, d, v, ρ, ρ', σ, Q, st, r, e, q => by
    cases d <;> simp only [bindT, reduceCtorEq] at e
    · obtain ⟨a, vs, rfl, h1, r1⟩ := r.ofTup
      rw [gT]
      exact ⟨a, vs, rfl, .inl (sqT_mono part_le h1), by rw [r1.length, bindTs_len e], imp_Ts st r1 e q⟩
    · obtain ⟨a, vs, rfl, h1, r1⟩ := r.ofLst
      rw [gT]
      exact ⟨a, vs, rfl, .inr (h1.mono part_le).sql, by rw [r1.length, bindTs_len e], imp_Ts st r1 e q⟩
  | .nil, d, v, ρ, ρ', σ, Q, st, r, e, q => by simp only [bindT] at e; cases e
  | .cons _ _, d, v, ρ, ρ', σ, Q, st, r, e, q => by simp only [bindT] at e; cases e
theorem imp_Ts : ∀ {t : Tg} {ds : List PD} {vs : List V} {ρ ρ' : En} {σ : St} {Q : St → Hp → Prop}, StOk k S ρ σ H → Reps k (reg S ρ σ H) ds vs → bindTs t ds ρ = .ok ρ' → (∀ σ', GoodB k S H ρ ρ' σ σ' t.slots → Q σ' H) → gTs k.K t vs σ H Q
  | .nil, [], vs, ρ, ρ', σ, Q, st, r, e, q => by
    simp only [bindTs] at e
    cases e
    rw [gTs]
    exact ⟨Reps.nil_iff.mp r, q σ ⟨st, Same.refl _, fun _ _ => rfl⟩⟩
  | .cons t ts, d :: ds, vs, ρ, ρ', σ, Q, st, r, e, q => by
    simp only [bindTs] at e
    obtain ⟨v, ws, rfl, r1, r2⟩ := Reps.cons_iff.mp r
    rw [gTs]
    cases e1 : bindT t d ρ with
    | ok ρ1 =>
      rw [e1] at e
      refine ⟨v, ws, rfl, imp_T st r1 e1 fun σ1 ⟨s1, m1, w1⟩ => ?_⟩
      refine imp_Ts s1 (Reps.mono m1 r2) e fun σ2 ⟨s2, m2, w2⟩ => q σ2 ⟨s2, m1.trans m2, fun vs hv => ?_⟩
      rw [w2 vs fun i hi => hv i (by simp [Tg.slots, hi]), w1 vs fun i hi => hv i (by simp [Tg.slots, hi])]
    | ex _ => rw [e1] at e; cases e
    | ask _ _ => rw [e1] at e; cases e
    | st => rw [e1] at e; cases e
  | .nm _, _, _, _, _, _, _, _, _, e, _ => by simp only [bindTs] at e; cases e
  | .tp _, _, _, _, _, _, _, _, _, e, _ => by simp only [bindTs] at e; cases e
  | .nil, _ :: _, _, _, _, _, _, _, _, e, _ => by simp only [bindTs] at e; cases e
  | .cons _ _, [], _, _, _, _, _, _, _, e, _ => by simp only [bindTs] at e; cases e
end
end

/-! ### comprehensions -/
/-- nothing is let out of a comprehension's block -/
def wNo : WX := fun _ _ _ _ => False
theorem tR.noW {α : Type} {k : Kx} {W : WX} {σ σ' : St} {H H' : Hp} {r : R α} {f : α → Prop} (h : tR k W σ H r.nox f) : tR k wNo σ' H' r f := by
  induction r with
  | ok a => exact h
  | ex c => exact h.elim
  | st => exact h.elim
  | ask m r ih => exact fun j h0 => ih j (h j h0)
theorem tR.no {α : Type} {k : Kx} {σ σ' : St} {H H' : Hp} {r : R α} {f : α → Prop} (h : tR k wNo σ H r f) : tR k wNo σ' H' r f := by
  induction r with
  | ok a => exact h
  | ex c => exact (h H (Same.refl H)).elim
  | st => exact h.elim
  | ask m r ih => exact fun j h0 => ih j (h j h0)
mutual
theorem bindT_plain : ∀ (t : Tg) (d : PD) (ρ : En), (bindT t d ρ).plain
  | .nm i, d, ρ => by simp only [bindT]; trivial
  | .tp ts, d, ρ => by
    cases d <;> simp only [bindT] <;> first | trivial | exact bindTs_plain ts _ ρ
  | .nil, d, ρ => by simp only [bindT]; trivial
  | .cons _ _, d, ρ => by simp only [bindT]; trivial
theorem bindTs_plain : ∀ (t : Tg) (ds : List PD) (ρ : En), (bindTs t ds ρ).plain
  | .nil, [], ρ => by simp only [bindTs]; trivial
  | .cons t ts, d :: ds, ρ => by
    simp only [bindTs]
    have h := bindT_plain t d ρ
    cases e : bindT t d ρ with
    | ok ρ' => exact bindTs_plain ts ds ρ'
    | ex _ => rw [e] at h; exact h.elim
    | ask _ _ => rw [e] at h; exact h.elim
    | st => trivial
  | .nm _, ds, ρ => by simp only [bindTs]; trivial
  | .tp _, ds, ρ => by simp only [bindTs]; trivial
  | .nil, _ :: _, ρ => by simp only [bindTs]; trivial
  | .cons _ _, [], ρ => by simp only [bindTs]; trivial
end
/-- bound, or nothing is told -/
theorem tR.bound {k : Kx} {W : WX} {σ : St} {H : Hp} {t : Tg} {d : PD} {ρ : En} {f : En → Prop} (h : tR k W σ H (bindT t d ρ) f) : ∃ ρ', bindT t d ρ = .ok ρ' ∧ f ρ' := by
  have p := bindT_plain t d ρ
  cases e : bindT t d ρ with
  | ok ρ' => rw [e] at h; exact ⟨ρ', rfl, h⟩
  | ex _ => rw [e] at p; exact p.elim
  | ask _ _ => rw [e] at p; exact p.elim
  | st => rw [e] at h; exact h.elim
section
variable {k : Kx} {W : WX} {fi : En → R (List PD)} {fc : En → R Bool} {fe : En → R Sl} {tg : Tg} {vs : List Nat}
def compE (fi : En → R (List PD)) (tg : Tg) (fc : En → R Bool) (fe : En → R Sl) (vs : List Nat) : En → R Sl := fun ρ => (fi ρ).bind fun xs => if xs.length < sizeLine then
      (compGo (bindT tg) fc (fun ρ' => asP (fe ρ')) (wipeE ρ vs) xs).nox.bind (fun ds => .ok (.l ds)) else .st
theorem imp_comp (hs : ∀ i ∈ tg.slots, i ∈ vs) {σ : St} {H : Hp} {Q : VK} (q : tE k W (compE fi tg fc fe vs) σ H Q) : tLc (tI k W fi) (gT k.K tg) (tT k wNo fc) (tE k wNo fe) vs σ H Q := by
  obtain ⟨S, ρ, st, q⟩ := q
  refine ⟨S, ρ, st, q.bind.mono (Same.refl _) fun xs _ q J H1 t1 go D nD => ?_⟩
  have st1 := st.mono t1
  by_cases hz : xs.length < sizeLine
  case neg => rw [if_neg hz] at q; exact q.elim
  rw [if_pos hz] at q
  have q := tR.noW (σ' := []) (H' := H1) q.bind
  have q : tR k wNo [] H1 (compGo (bindT tg) fc (fun ρ' => asP (fe ρ')) (wipeE ρ vs) xs) fun ds => ∀ v H', Same H H' → ResOk k (regP S ρ σ) H H' (.l ds) v → Q v H' := q
  generalize hF : (fun ds : List PD => ∀ v H', Same H H' → ResOk k (regP S ρ σ) H H' (.l ds) v → Q v H') = F at q
  have hF : ∀ ds, F ds = ∀ v H', Same H H' → ResOk k (regP S ρ σ) H H' (.l ds) v → Q v H' := fun ds => (congrFun hF ds).symm
  case _ =>
    -- the block's own state: what the frame owns and the new list are hidden
    let S' : Sx := ⟨S.H0, S.Rg, fun a => S.hid a ∨ a = D ∨ ownA ρ σ a⟩
    let pD : Addr → Prop := fun a => regP S ρ σ a ∧ a ≠ D
    have hpD : ∀ {ρ' : En} {σ' : St} (a : Addr), regP S' ρ' σ' a → pD a := fun a z => ⟨⟨z.1, fun h => z.2.1 (.inl h), fun h => z.2.1 (.inr (.inr h))⟩, fun h => z.2.1 (.inr (.inl h))⟩
    have hpD2 : ∀ a, pD a → regP S' (wipeE ρ vs) (wipe σ vs) a := fun a z => by
      refine ⟨z.1.1, fun h => ?_, fun o => z.1.2.2 ?_⟩
      · rcases h with h | h | h
        · exact z.1.2.1 h
        · exact z.2 h
        · exact z.1.2.2 h
      · obtain ⟨i, s, e, o, w⟩ := o
        have hi : i ∉ vs := fun hm => by
          rw [wipe_get, if_pos hm] at w
          split at w <;> cases w
        have e' : ∀ (ρ : En) (vs : List Nat), i ∉ vs → (wipeE ρ vs)[i]? = ρ[i]? := by
          intro ρ vs
          induction vs with
          | nil => intro _; rfl
          | cons v r ih =>
            intro hn
            simp only [List.mem_cons, not_or] at hn
            show ((wipeE ρ r).set v none)[i]? = _
            rw [List.getElem?_set_ne (Ne.symm hn.1)]
            exact ih hn.2
        rw [e' ρ vs hi] at e
        rw [wipe_get, if_neg hi] at w
        exact ⟨i, s, e, o, w⟩
    have stB : ∀ {H2 : Hp}, Same H1 H2 → (∃ u, H2 D = some u) → StOk k S' (wipeE ρ vs) (wipe σ vs) H2 := fun {H2} t hD => by
      obtain ⟨s1, _⟩ := st1.wiped vs
      have gm : Same (reg S (wipeE ρ vs) (wipe σ vs) H1) (reg S' (wipeE ρ vs) (wipe σ vs) H2) ∨ True := .inr trivial
      refine ⟨s1.len, st1.same.trans t, fun i s e => ?_, s1.new, fun a z => ?_, s1.inj⟩
      · -- a slot that is not wiped
        have hi : i ∉ vs := fun hm => by
          have : ∀ (ρ : En) (vs : List Nat), i ∈ vs → ¬ ∃ s, (wipeE ρ vs)[i]? = some (some s) := by
            intro ρ vs
            induction vs with
            | nil => intro h; cases h
            | cons v r ih =>
              rintro hn ⟨s, e⟩
              have e : ((wipeE ρ r).set v none)[i]? = some (some s) := e
              by_cases hv : v = i
              · subst hv
                by_cases hl : v < (wipeE ρ r).length
                · rw [List.getElem?_set_self hl] at e; cases e
                · rw [List.getElem?_eq_none (by simpa using hl)] at e; cases e
              · rw [List.getElem?_set_ne hv] at e
                rcases List.mem_cons.mp hn with h | h
                · exact hv h.symm
                · exact ih h ⟨s, e⟩
          exact this ρ vs hm ⟨s, e⟩
        have e' : ∀ (ρ : En) (vs : List Nat), i ∉ vs → (wipeE ρ vs)[i]? = ρ[i]? := by
          intro ρ vs
          induction vs with
          | nil => intro _; rfl
          | cons v r ih =>
            intro hn
            simp only [List.mem_cons, not_or] at hn
            show ((wipeE ρ r).set v none)[i]? = _
            rw [List.getElem?_set_ne (Ne.symm hn.1)]
            exact ih hn.2
        rw [e' ρ vs hi] at e
        obtain ⟨v, e1, r⟩ := st1.slot i s e
        refine ⟨v, by rw [wipe_get, if_neg hi]; exact e1, r.mono ?_ t⟩
        exact part_mono t fun a o ha z => hpD2 a ⟨z, ne_of_none ha nD⟩
      · rcases z with z | z | z
        · obtain ⟨u, e⟩ := st1.hid a z
          exact ⟨u, t _ _ e⟩
        · subst z; exact hD
        · obtain ⟨u, e⟩ := st1.there z
          exact ⟨u, t _ _ e⟩
    refine ⟨fun i m H2 => m = xs.length - i ∧ i ≤ xs.length ∧ Same H1 H2 ∧ ∃ (acc : List V) (d1 : List PD), H2 D = some (.lst acc) ∧ Reps k (part pD H2) d1 acc ∧ d1.length ≤ i ∧ tR k wNo [] H1 (compGo (bindT tg) fc (fun ρ' => asP (fe ρ')) (wipeE ρ vs) (xs.drop i)) fun d2 => F (d1 ++ d2),
      ⟨xs.length, by omega, Nat.zero_le _, same_new nD, [], [], upd_same, Reps.nil, Nat.le_refl _, q⟩, ?_⟩
    rintro i m H2 ⟨rfl, hi, t2, acc, d1, hD, ra, hl1, eg⟩
    have gG : Same (reg S ρ σ H1) (part pD H2) := part_mono t2 fun a o ha z => ⟨z, ne_of_none ha nD⟩
    obtain ⟨goI, stopI⟩ := go i _ H2 gG part_le
    by_cases hlt : i < xs.length
    · have ex : xs[i]? = some xs[i] := List.getElem?_eq_getElem hlt
      rw [List.drop_eq_getElem_cons hlt] at eg
      rw [compGo] at eg
      obtain ⟨ρ', e1, eg⟩ := tR.bound eg.bind
      have eg := eg.bind
      obtain ⟨g1, yl⟩ := goI _ ex
      refine .inr ⟨g1, fun H' => i + 1 ≤ xs.length ∧ Same H1 H' ∧ ∃ (acc : List V) (d1 : List PD), H' D = some (.lst acc) ∧ Reps k (part pD H') d1 acc ∧ d1.length ≤ i + 1 ∧ tR k wNo [] H1 (compGo (bindT tg) fc (fun ρ' => asP (fe ρ')) (wipeE ρ vs) (xs.drop (i + 1))) fun d2 => F (d1 ++ d2),
        fun H' n => ⟨xs.length - (i + 1), by omega, rfl, n⟩, fun x H3 y => ?_⟩
      have y := yl x H3 y
      -- the item, in the block's region
      have hy : Same H2 H3 ∧ Rep k (part pD H3) xs[i] x := by
        rcases y with ⟨rfl, r⟩ | ⟨T, ws, es, nT, rfl, rfl, ed, r⟩
        · exact ⟨Same.refl _, r⟩
        · refine ⟨same_new nT, ?_⟩
          rw [ed]
          have pT : pD T := ⟨st1.fresh (t2.free nT), fun z => by rw [z, hD] at nT; cases nT⟩
          exact Rep.tup (.inl (by rw [part_eq pT]; exact upd_same)) (Reps.mono (part_mono (same_new nT) fun _ _ _ z => z) r)
      obtain ⟨t3, rx⟩ := hy
      have stI := stB (t2.trans t3) ⟨_, t3 _ _ hD⟩
      have rx' : Rep k (reg S' (wipeE ρ vs) (wipe σ vs) H3) xs[i] x := Rep.mono (part_mono (Same.refl _) fun a _ _ z => hpD2 a z) rx
      refine imp_T stI rx' e1 fun σ2 ⟨s2, m2, w2⟩ => ⟨by rw [w2 vs hs, wipe_wipe], ?_⟩
      refine ⟨S', ρ', s2, eg.no.mono (Same.refl _) fun b _ e3 H4 t4 => ?_⟩
      have t24 := t3.trans t4
      dsimp only
      cases b with
      | false =>
        rw [if_neg Bool.false_ne_true] at e3 ⊢
        exact ⟨hlt, t2.trans t24, acc, d1, t24 _ _ hD, Reps.mono (part_mono t24 fun _ _ _ z => z) ra, by omega, e3⟩
      | true =>
        rw [if_pos rfl] at e3 ⊢
        have s4 := s2.mono t4
        refine tE.data s4 (e3.bind.no.mono (Same.refl _) fun d _ e5 y H5 t5 r5 => ?_)
        have e5 : tR k wNo [] H1 (compGo (bindT tg) fc (fun ρ' => asP (fe ρ')) (wipeE ρ vs) (xs.drop (i + 1))) fun d2 => F ((d1 ++ [d]) ++ d2) := e5.bind.mono (Same.refl _) fun ds' _ z => by
          have z : F (d1 ++ d :: ds') := z
          rw [List.append_assoc]; exact z
        have t25 := t24.trans t5
        have ra5 : Reps k (part pD H5) d1 acc := Reps.mono (part_mono t25 fun _ _ _ z => z) ra
        have r5' : Rep k (part pD H5) d y := Rep.mono (part_mono (Same.refl _) fun a _ _ z => hpD a z) r5
        have hD5 := t25 _ _ hD
        refine ⟨acc, hD5, by rw [ra.length]; omega, hlt, fun b o e => ?_, acc ++ [y], d1 ++ [d], upd_same, ?_, by simp; omega, e5⟩
        · rw [upd_ne (ne_of_none e nD)]
          exact t25 _ _ (t2 _ _ e)
        · have keep : Same (part pD H5) (part pD (upd H5 D (.lst (acc ++ [y])))) := fun b o e => by
            obtain ⟨z1, z2⟩ := part_some e
            have hb : b ≠ D := fun h => by
              rcases z1 with z1 | z1
              · exact z1.2 h
              · rw [h, hD5] at z2
                cases z2
                exact z1.elim
            rcases z1 with z1 | z1
            · rw [part_eq z1, upd_ne hb]; exact z2
            · cases o <;> first | exact z1.elim | exact part_tup (by rw [upd_ne hb]; exact z2)
          exact Reps.append (Reps.mono keep ra5) (Reps.cons (Rep.mono keep r5') Reps.nil)
    · have ei : i = xs.length := by omega
      subst ei
      rw [List.drop_length, compGo] at eg
      have eg : F (d1 ++ []) := eg
      rw [List.append_nil, hF] at eg
      refine .inl ⟨stopI (Nat.le_refl _), eg _ H2 (t1.trans t2) ⟨D, acc, rfl, t1.free nD, hD, ra⟩⟩
end
end FS

set_option maxRecDepth 100000
set_option autoImplicit false
set_option maxHeartbeats 1000000
/-! Own dicts, own lists' items, sorted sets: the rules. -/
namespace FS
open PySem PySem.Spec L2
theorem keq_key : ∀ a b : Key, keq (keyPD a) (keyPD b) = decide (a = b)
  | .inl i, .inl j => by simp [keq, keyPD]
  | .inr x, .inr y => by simp [keq, keyPD]
  | .inl i, .inr y => by simp [keq, keyPD]
  | .inr x, .inl j => by simp [keq, keyPD]
theorem keqs_keys : ∀ a b : List Key, keqs (a.map keyPD) (b.map keyPD) = decide (a = b)
  | [], [] => by simp [keqs]
  | [], _ :: _ => by simp [keqs]
  | _ :: _, [] => by simp [keqs]
  | x :: a, y :: b => by
    rw [List.map_cons, List.map_cons, keqs, keq_key, keqs_keys]
    simp
theorem keq_tup (a b : List Key) : keq (.tup (a.map keyPD)) (.tup (b.map keyPD)) = decide (a = b) := by rw [keq, keqs_keys]
theorem flatK_key : ∀ {x : PD}, flatK x = true → ∃ y : Key, x = keyPD y
  | .int i, _ => ⟨.inl i, rfl⟩
  | .str s, _ => ⟨.inr s, rfl⟩
  | .non, h => by cases h
  | .bl _, h => by cases h
  | .tup _, h => by cases h
  | .lst _, h => by cases h
  | .dct _, h => by cases h
  | .exn _, h => by cases h
  | .pot, h => by cases h
theorem flatK_keys : ∀ {ds : List PD}, ds.all flatK = true → ∃ y : List Key, ds = y.map keyPD
  | [], _ => ⟨[], rfl⟩
  | d :: ds, h => by
    rw [List.all_cons, Bool.and_eq_true] at h
    obtain ⟨y, e⟩ := flatK_key h.1
    obtain ⟨ys, es⟩ := flatK_keys h.2
    exact ⟨y :: ys, by rw [List.map_cons, ← e, ← es]⟩
section
variable {k : Kx} {G : Hp}
theorem rep_key {y : Key} {v : V} (h : Rep k G (keyPD y) v) : v = kV y := by
  cases y with
  | inl i => exact Rep.ofInt h
  | inr x => exact Rep.ofStr h
theorem reps_keys : ∀ {y : List Key} {vs : List V}, Reps k G (y.map keyPD) vs → vs = y.map kV
  | [], _, h => Reps.nil_iff.mp h
  | y :: ys, _, h => by
    obtain ⟨v, ws, rfl, q, r⟩ := Reps.cons_iff.mp h
    rw [rep_key q, reps_keys r]; rfl
/-- what is told of a key -/
theorem repK_get : ∀ {kvs : List (PD × PD)} {ks : List (Key × V)} (y : Key), RepK k G kvs ks → (getP kvs (keyPD y) = none ∧ valV ks y = none) ∨ ∃ d v, getP kvs (keyPD y) = some d ∧ valV ks y = some v ∧ Rep k G d v
  | [], ks, y, h => by
    simp only [RepK] at h
    subst h
    exact .inl ⟨rfl, rfl⟩
  | (x, d) :: kvs, ks, y, h => by
    simp only [RepK] at h
    obtain ⟨z, v, ws, rfl, rfl, q, r⟩ := h
    have e := keq_key z y
    by_cases hz : z = y
    · right
      refine ⟨d, v, ?_, valV_pos (p := (z, v)) hz, q⟩
      unfold getP
      rw [List.find?_cons_of_pos (by rw [e]; exact decide_eq_true hz)]
      rfl
    · have e1 : getP ((keyPD z, d) :: kvs) (keyPD y) = getP kvs (keyPD y) := by
        unfold getP
        rw [List.find?_cons_of_neg (by rw [e]; simpa using hz)]
      rw [e1, valV_neg (p := (z, v)) hz]
      exact repK_get y r
theorem repT_get : ∀ {kvs : List (PD × PD)} {ks : List (List Key × V)} (y : List Key), RepT k G kvs ks → (getP kvs (.tup (y.map keyPD)) = none ∧ valV ks y = none) ∨ ∃ d v, getP kvs (.tup (y.map keyPD)) = some d ∧ valV ks y = some v ∧ Rep k G d v
  | [], ks, y, h => by
    simp only [RepT] at h
    subst h
    exact .inl ⟨rfl, rfl⟩
  | (x, d) :: kvs, ks, y, h => by
    simp only [RepT] at h
    obtain ⟨z, v, ws, rfl, rfl, q, r⟩ := h
    have e := keq_tup z y
    by_cases hz : z = y
    · right
      refine ⟨d, v, ?_, valV_pos (p := (z, v)) hz, q⟩
      unfold getP
      rw [List.find?_cons_of_pos (by rw [e]; exact decide_eq_true hz)]
      rfl
    · have e1 : getP ((.tup (z.map keyPD), d) :: kvs) (.tup (y.map keyPD)) = getP kvs (.tup (y.map keyPD)) := by
        unfold getP
        rw [List.find?_cons_of_neg (by rw [e]; simpa using hz)]
      rw [e1, valV_neg (p := (z, v)) hz]
      exact repT_get y r
theorem repK_app : ∀ {kvs : List (PD × PD)} {ks : List (Key × V)} {y : Key} {d : PD} {v : V}, RepK k G kvs ks → Rep k G d v → RepK k G (kvs ++ [(keyPD y, d)]) (ks ++ [(y, v)])
  | [], ks, y, d, v, h, r => by
    simp only [RepK] at h
    subst h
    simp only [List.nil_append, RepK]
    exact ⟨y, v, [], rfl, rfl, r, rfl⟩
  | (x, e) :: kvs, ks, y, d, v, h, r => by
    simp only [RepK] at h
    obtain ⟨z, u, ws, rfl, rfl, q, t⟩ := h
    simp only [List.cons_append, RepK]
    exact ⟨z, u, ws ++ [(y, v)], rfl, rfl, q, repK_app t r⟩
theorem repT_app : ∀ {kvs : List (PD × PD)} {ks : List (List Key × V)} {y : List Key} {d : PD} {v : V}, RepT k G kvs ks → Rep k G d v → RepT k G (kvs ++ [(.tup (y.map keyPD), d)]) (ks ++ [(y, v)])
  | [], ks, y, d, v, h, r => by
    simp only [RepT] at h
    subst h
    simp only [List.nil_append, RepT]
    exact ⟨y, v, [], rfl, rfl, r, rfl⟩
  | (x, e) :: kvs, ks, y, d, v, h, r => by
    simp only [RepT] at h
    obtain ⟨z, u, ws, rfl, rfl, q, t⟩ := h
    simp only [List.cons_append, RepT]
    exact ⟨z, u, ws ++ [(y, v)], rfl, rfl, q, repT_app t r⟩
theorem repK_map : ∀ {kvs : List (PD × PD)} {ks : List (Key × V)} {y : Key} {d : PD} {v : V}, RepK k G kvs ks → Rep k G d v → RepK k G (kvs.map fun p => if keq p.1 (keyPD y) = true then (p.1, d) else p) (ks.map fun kv => if kv.1 = y then (kv.1, v) else kv)
  | [], ks, y, d, v, h, r => by
    simp only [RepK] at h
    subst h
    simp only [List.map_nil, RepK]
  | (x, e) :: kvs, ks, y, d, v, h, r => by
    simp only [RepK] at h
    obtain ⟨z, u, ws, rfl, rfl, q, t⟩ := h
    have ek := keq_key z y
    rw [List.map_cons, List.map_cons]
    by_cases hz : z = y
    · rw [if_pos (by rw [ek]; exact decide_eq_true hz), if_pos hz]
      simp only [RepK]
      exact ⟨z, v, _, rfl, rfl, r, repK_map t r⟩
    · rw [if_neg (by rw [ek]; simpa using hz), if_neg hz]
      simp only [RepK]
      exact ⟨z, u, _, rfl, rfl, q, repK_map t r⟩
theorem repT_map : ∀ {kvs : List (PD × PD)} {ks : List (List Key × V)} {y : List Key} {d : PD} {v : V}, RepT k G kvs ks → Rep k G d v → RepT k G (kvs.map fun p => if keq p.1 (.tup (y.map keyPD)) = true then (p.1, d) else p) (ks.map fun kv => if kv.1 = y then (kv.1, v) else kv)
  | [], ks, y, d, v, h, r => by
    simp only [RepT] at h
    subst h
    simp only [List.map_nil, RepT]
  | (x, e) :: kvs, ks, y, d, v, h, r => by
    simp only [RepT] at h
    obtain ⟨z, u, ws, rfl, rfl, q, t⟩ := h
    have ek := keq_tup z y
    rw [List.map_cons, List.map_cons]
    by_cases hz : z = y
    · rw [if_pos (by rw [ek]; exact decide_eq_true hz), if_pos hz]
      simp only [RepT]
      exact ⟨z, v, _, rfl, rfl, r, repT_map t r⟩
    · rw [if_neg (by rw [ek]; simpa using hz), if_neg hz]
      simp only [RepT]
      exact ⟨z, u, _, rfl, rfl, q, repT_map t r⟩
theorem repK_any : ∀ {kvs : List (PD × PD)} {ks : List (Key × V)} (y : Key), RepK k G kvs ks → (kvs.any fun p => keq p.1 (keyPD y)) = ks.any fun kv => decide (kv.1 = y)
  | [], ks, y, h => by
    simp only [RepK] at h
    subst h; rfl
  | (x, e) :: kvs, ks, y, h => by
    simp only [RepK] at h
    obtain ⟨z, u, ws, rfl, rfl, q, t⟩ := h
    rw [List.any_cons, List.any_cons, repK_any y t, keq_key]
theorem repT_any : ∀ {kvs : List (PD × PD)} {ks : List (List Key × V)} (y : List Key), RepT k G kvs ks → (kvs.any fun p => keq p.1 (.tup (y.map keyPD))) = ks.any fun kv => decide (kv.1 = y)
  | [], ks, y, h => by
    simp only [RepT] at h
    subst h; rfl
  | (x, e) :: kvs, ks, y, h => by
    simp only [RepT] at h
    obtain ⟨z, u, ws, rfl, rfl, q, t⟩ := h
    rw [List.any_cons, List.any_cons, repT_any y t, keq_tup]
theorem repK_put {kvs : List (PD × PD)} {ks : List (Key × V)} {y : Key} {d : PD} {v : V} (h : RepK k G kvs ks) (r : Rep k G d v) : RepK k G (putP kvs (keyPD y) d) (putK ks y v) := by
  unfold putP putK
  rw [repK_any y h]
  split
  · exact repK_map h r
  · exact repK_app h r
theorem repT_put {kvs : List (PD × PD)} {ks : List (List Key × V)} {y : List Key} {d : PD} {v : V} (h : RepT k G kvs ks) (r : Rep k G d v) : RepT k G (putP kvs (.tup (y.map keyPD)) d) (putK ks y v) := by
  unfold putP putK
  rw [repT_any y h]
  split
  · exact repT_map h r
  · exact repT_app h r
theorem repK_len : ∀ {kvs : List (PD × PD)} {ks : List (Key × V)}, RepK k G kvs ks → ks.length = kvs.length
  | [], ks, h => by
    simp only [RepK] at h
    subst h; rfl
  | (x, e) :: kvs, ks, h => by
    simp only [RepK] at h
    obtain ⟨z, u, ws, rfl, rfl, q, t⟩ := h
    rw [List.length_cons, List.length_cons, repK_len t]
theorem repT_len : ∀ {kvs : List (PD × PD)} {ks : List (List Key × V)}, RepT k G kvs ks → ks.length = kvs.length
  | [], ks, h => by
    simp only [RepT] at h
    subst h; rfl
  | (x, e) :: kvs, ks, h => by
    simp only [RepT] at h
    obtain ⟨z, u, ws, rfl, rfl, q, t⟩ := h
    rw [List.length_cons, List.length_cons, repT_len t]
theorem repT_tints : ∀ {kvs : List (PD × PD)} {ks : List (List Key × V)} {L : List (List Int)}, RepT k G kvs ks → kvs.map (·.1) = L.map tupI → ks.map (·.1) = L.map (fun ns => ns.map Sum.inl)
  | [], ks, L, h, e => by
    simp only [RepT] at h
    subst h
    cases L with
    | nil => rfl
    | cons _ _ => simp at e
  | (x, d) :: kvs, ks, L, h, e => by
    simp only [RepT] at h
    obtain ⟨z, u, ws, rfl, rfl, q, t⟩ := h
    cases L with
    | nil => simp at e
    | cons ns L =>
      rw [List.map_cons, List.map_cons] at e
      obtain ⟨e1, e2⟩ := List.cons.inj e
      rw [List.map_cons, List.map_cons, repT_tints t e2]
      congr 1
      have e3 : z.map keyPD = ns.map PD.int := by
        have : PD.tup (z.map keyPD) = PD.tup (ns.map PD.int) := e1
        injection this
      clear e1 e t q
      show z = _
      induction z generalizing ns with
      | nil => cases ns with
        | nil => rfl
        | cons _ _ => simp at e3
      | cons a z ih => cases ns with
        | nil => simp at e3
        | cons n ns =>
          rw [List.map_cons, List.map_cons] at e3
          obtain ⟨f1, f2⟩ := List.cons.inj e3
          rw [List.map_cons, ih _ f2]
          congr 1
          cases a with
          | inl i =>
            have : PD.int i = PD.int n := f1
            injection this with this
            rw [this]
          | inr x => exact absurd (show PD.str x = PD.int n from f1) (by simp)
/-- asking a dict of the frame's own -/
theorem dict_get {H : Hp} {t : Bool} {kvs : List (PD × PD)} {a : Addr} {x : PD} {v : V} {p : Addr → Prop} (hk : k.tk = false) (h : DictAt k G H t kvs a) (ho : keyOk t x = true) (r : Rep k (part p H) x v) :
    ∃ o, DGet H a v o ∧ ((getP kvs x = none ∧ o = none) ∨ ∃ d u, getP kvs x = some d ∧ o = some u ∧ Rep k G d u) := by
  rcases h with ⟨rfl, ks, e, q⟩ | ⟨rfl, ks, e, q⟩
  · obtain ⟨y, rfl⟩ := flatK_key ho
    rw [rep_key r]
    refine ⟨_, DGet.k e, ?_⟩
    rcases repK_get y q with ⟨h1, h2⟩ | ⟨d, u, h1, h2, h3⟩
    · exact .inl ⟨h1, h2⟩
    · exact .inr ⟨d, u, h1, h2, h3⟩
  · cases x <;> simp only [keyOk, Bool.false_eq_true] at ho
    obtain ⟨y, rfl⟩ := flatK_keys ho
    obtain ⟨b, vs, rfl, hb, rr⟩ := Rep.ofTupH hk r
    rw [reps_keys rr] at hb
    refine ⟨_, DGet.t e (part_some hb).2, ?_⟩
    rcases repT_get y q with ⟨h1, h2⟩ | ⟨d, u, h1, h2, h3⟩
    · exact .inl ⟨h1, h2⟩
    · exact .inr ⟨d, u, h1, h2, h3⟩
end
theorem pc_imp {X : Cx} {op : CmpOp} {a b : Expr} {t t' : TE} (h : PC X op a b t) (i : ∀ σ H Q, t' σ H Q → t σ H Q) : PC X op a b t' := ⟨fun pins s σ H Q I q => h.run pins s σ H Q I (i σ H Q q)⟩
section
variable {X : Cx} {k : Kx} {W : WX} {f g h : En → R Sl} {N : List Str} {sc : Scope}
theorem get_k {α : Type} {ρ : En} {i : Nat} {r : α → Prop} {F : Bool → List (PD × PD) → α} {b : α} (h : r (match ρ[i]? with
    | some (some (.k t kvs)) => F t kvs
    | _ => b)) (hb : ¬ r b) : ∃ t kvs, ρ[i]? = some (some (.k t kvs)) ∧ r (F t kvs) := by
  cases e : ρ[i]? with
  | none => rw [e] at h; exact absurd h hb
  | some o =>
    cases o with
    | none => rw [e] at h; exact absurd h hb
    | some s =>
      cases s with
      | l d => rw [e] at h; exact absurd h hb
      | v d => rw [e] at h; exact absurd h hb
      | k t kvs => rw [e] at h; exact ⟨t, kvs, rfl, h⟩
theorem get_o {α : Type} {ρ : En} {i : Nat} {r : α → Prop} {F : List PD → α} {b : α} (h : r (match ρ[i]? with
    | some (some (.l ds)) => F ds
    | _ => b)) (hb : ¬ r b) : ∃ ds, ρ[i]? = some (some (.l ds)) ∧ r (F ds) := by
  cases e : ρ[i]? with
  | none => rw [e] at h; exact absurd h hb
  | some o =>
    cases o with
    | none => rw [e] at h; exact absurd h hb
    | some s =>
      cases s with
      | k _ d => rw [e] at h; exact absurd h hb
      | v d => rw [e] at h; exact absurd h hb
      | l ds => rw [e] at h; exact ⟨ds, rfl, h⟩
theorem slot_k {S : Sx} {ρ : En} {σ : L2.St} {H : Hp} (st : StOk k S ρ σ H) {i : Nat} {t : Bool} {kvs : List (PD × PD)} (e : ρ[i]? = some (some (.k t kvs))) : ∃ a, σ[i]? = some (some (V.ref a)) ∧ DictAt k (reg S ρ σ H) H t kvs a := by
  obtain ⟨v, e1, a, rfl, q⟩ := st.slot i _ e
  exact ⟨a, e1, q⟩
theorem slot_o {S : Sx} {ρ : En} {σ : L2.St} {H : Hp} (st : StOk k S ρ σ H) {i : Nat} {ds : List PD} (e : ρ[i]? = some (some (.l ds))) : ∃ a vs, σ[i]? = some (some (V.ref a)) ∧ H a = some (.lst vs) ∧ Reps k (reg S ρ σ H) ds vs := by
  obtain ⟨v, e1, a, vs, rfl, q, r⟩ := st.slot i _ e
  exact ⟨a, vs, e1, q, r⟩
theorem pv_n {i : Nat} {x : Str} {pos : Pos} (eN : X.N = N) (eS : X.env.scope = sc) (h1 : N[i]? = some x) (h2 : visB sc x = true) (h3 : okN x = true) : PE X (.Name x pos) (tVar i) :=
  pe_var (by rw [eN]; exact h1) (by rw [eS]; exact vis_of h2) (okN_dbg h3).1 (okN_dbg h3).2.1
/-- an item of a list of the frame's own -/
theorem pe_oget {i : Nat} {x : Str} {y : Expr} {p pos : Pos} (hk : X.K = k.K) (eN : X.N = N) (eS : X.env.scope = sc) (h1 : N[i]? = some x) (h2 : visB sc x = true) (h3 : okN x = true) (hp : plB y = true) (h : PE X y (tE k W f)) :
    PE X (.Subscript (.Name x p) y pos) (tE k W fun ρ => match ρ[i]? with
      | some (some (.l ds)) => (asI (f ρ)).bind fun j => match atI ds j with
        | some d => .ok (.v d)
        | none => .st
      | _ => .st) := by
  refine pe_imp (pe_ix ix_list (pv_n eN eS h1 h2 h3) h (plain_ixP hp)) fun σ H Q ⟨S, ρ, st, q⟩ => ?_
  dsimp only at q
  obtain ⟨ds, er, q⟩ := get_o (r := fun z => tR k W σ H z fun s => ∀ v H', Same H H' → ResOk k (regP S ρ σ) H H' s v → Q v H') q (fun z => z)
  obtain ⟨a, vs, ea, hA, rr⟩ := slot_o st er
  refine ⟨.ref a, ea, S, ρ, st, (tR.asI q.bind).mono (Same.refl _) fun s _ ⟨j, es, q⟩ v H1 t1 r1 => ?_⟩
  subst es
  have r1 := Rep.ofInt (k := k) (G := part (regP S ρ σ) H1) r1
  subst r1
  cases ed : atI ds j with
  | none => rw [ed] at q; exact q.elim
  | some d =>
    rw [ed] at q
    obtain ⟨u, hu, ru⟩ := rr.atI ed
    exact ⟨a, vs, j, u, rfl, rfl, .inl (.inl (t1 _ _ hA)), hu, q _ _ t1 (Rep.mono (part_mono t1 fun _ _ _ z => z) ru)⟩
/-- e in d, e not in d -/
theorem pe_kin {n : Bool} {i : Nat} {x : Str} {y : Expr} {p pos : Pos} {b : Bool} (hu : X.A.units + 65 < cLine) (eN : X.N = N) (eS : X.env.scope = sc) (htk : k.tk = b) (h1 : N[i]? = some x) (h2 : visB sc x = true) (h3 : okN x = true) (h : PE X y (tE k W f)) :
    PC X (if n = true then .NotIn else .In) y (.Name x p) (tE k W fun ρ => match ρ[i]? with
      | some (some (.k t kvs)) => (asP (f ρ)).bind fun x => if keyOk t x = true ∧ b = false then okB (Bool.xor n (getP kvs x).isSome) else .st
      | _ => .st) := by
  have key : ∀ σ H Q, tE k W (fun ρ => match ρ[i]? with
      | some (some (.k t kvs)) => (asP (f ρ)).bind fun x => if keyOk t x = true ∧ b = false then okB (Bool.xor n (getP kvs x).isSome) else .st
      | _ => .st) σ H Q → (tE k W f) σ H fun y H1 => (tVar i) σ H1 fun x H2 => ∃ a o, x = .ref a ∧ DGet H2 a y o ∧ Q (.bl (Bool.xor n o.isSome)) H2 := fun σ H Q ⟨S, ρ, st, q⟩ => by
    dsimp only at q
    obtain ⟨t, kvs, er, q⟩ := get_k (r := fun z => tR k W σ H z fun s => ∀ v H', Same H H' → ResOk k (regP S ρ σ) H H' s v → Q v H') q (fun z => z)
    refine tE.data st (q.bind.mono (Same.refl _) fun d _ q v H1 t1 r1 => ?_)
    obtain ⟨a, ea, hd⟩ := slot_k (st.mono t1) er
    by_cases ho : keyOk t d = true ∧ b = false
    · rw [if_pos ho] at q
      obtain ⟨o, g, ho2⟩ := dict_get (htk.trans ho.2) hd ho.1 r1
      refine ⟨_, ea, a, o, rfl, g, ?_⟩
      have e : (getP kvs d).isSome = o.isSome := by rcases ho2 with ⟨e1, e2⟩ | ⟨_, _, e1, e2, _⟩ <;> rw [e1, e2] <;> rfl
      rw [← e]
      exact q _ _ t1 ResOk.flatB
    · rw [if_neg ho] at q; exact q.elim
  cases n with
  | false =>
    exact pc_imp (pc_din (by omega) h (pv_n eN eS h1 h2 h3)) fun σ H Q q => by
      have z := key σ H Q q
      simp only [Bool.false_xor] at z
      exact z
  | true =>
    exact pc_imp (pc_dnotin (by omega) h (pv_n eN eS h1 h2 h3)) fun σ H Q q => by
      have z := key σ H Q q
      simp only [Bool.true_xor] at z
      exact z
theorem pc_eq {op : CmpOp} {a b : Expr} {F F' : En → R Sl} (p : PC X op a b (tE k W F)) (h : ∀ ρ, F ρ = F' ρ) : PC X op a b (tE k W F') := by
  have : F = F' := funext h
  rw [← this]; exact p
theorem mk_name {x : Str} {p : Pos} {op : CmpOp} : behindInMarks op (.Name x p) = false := by cases op <;> rfl
theorem pt_kin {n : Bool} {f : En → R Sl} {y : Expr} {x : Str} {p pos : Pos} {F : En → R Sl} (h : PC X (if n = true then .NotIn else .In) y (.Name x p) (tE k W F)) : PT X (.Compare y [if n = true then .NotIn else .In] [.Name x p] pos) (tT k W fun ρ => asB (F ρ)) :=
  pt_imp (pt_cmp h mk_name) fun σ H Q q => by
    have z := imp_test (t := tE k W F) (fun _ _ _ q => q) q
    exact z
/-- d[e] -/
theorem pe_kget {i : Nat} {x : Str} {y : Expr} {p pos : Pos} {b : Bool} (hu : X.A.units + 65 < cLine) (eN : X.N = N) (eS : X.env.scope = sc) (htk : k.tk = b) (h1 : N[i]? = some x) (h2 : visB sc x = true) (h3 : okN x = true) (hp : plB y = true) (h : PE X y (tE k W f)) :
    PE X (.Subscript (.Name x p) y pos) (tE k W fun ρ => match ρ[i]? with
      | some (some (.k t kvs)) => (asP (f ρ)).bind fun x => if keyOk t x = true ∧ b = false then (match getP kvs x with
        | some d => .ok (.v d)
        | none => .st) else .st
      | _ => .st) := by
  refine pe_imp (pe_dget (by omega) (pv_n eN eS h1 h2 h3) h (by cases y <;> first | (intro _ _; rfl) | exact absurd hp Bool.false_ne_true)) fun σ H Q ⟨S, ρ, st, q⟩ => ?_
  dsimp only at q
  obtain ⟨t, kvs, er, q⟩ := get_k (r := fun z => tR k W σ H z fun s => ∀ v H', Same H H' → ResOk k (regP S ρ σ) H H' s v → Q v H') q (fun z => z)
  obtain ⟨a, ea, hd⟩ := slot_k st er
  refine ⟨.ref a, ea, tE.data st (q.bind.mono (Same.refl _) fun d _ q v H1 t1 r1 => ?_)⟩
  obtain ⟨a', ea', hd1⟩ := slot_k (st.mono t1) er
  rw [ea] at ea'
  cases ea'
  by_cases ho : keyOk t d = true ∧ b = false
  · rw [if_pos ho] at q
    obtain ⟨o, g, ho2⟩ := dict_get (htk.trans ho.2) hd1 ho.1 r1
    rcases ho2 with ⟨e1, e2⟩ | ⟨e, u, e1, e2, e3⟩
    · rw [e1] at q; exact q.elim
    · rw [e1] at q
      rw [e2] at g
      exact ⟨a, u, rfl, g, q _ _ t1 e3⟩
  · rw [if_neg ho] at q; exact q.elim
theorem dict_is {H : Hp} {t : Bool} {G : Hp} {kvs : List (PD × PD)} {a : Addr} (h : DictAt k G H t kvs a) : IsD H a := by
  rcases h with ⟨_, ks, e, _⟩ | ⟨_, ks, e, _⟩
  · exact .inl ⟨ks, .inl e⟩
  · exact .inr ⟨ks, .inl e⟩
/-- d.get(e, d) -/
theorem pe_kgetd {i : Nat} {x : Str} {y z : Expr} {p apos cpos : Pos} {b : Bool} (hu : X.A.units + 65 < cLine) (eN : X.N = N) (eS : X.env.scope = sc) (htk : k.tk = b) (h1 : N[i]? = some x) (h2 : visB sc x = true) (h3 : okN x = true) (m : M2 X (.Name x p) "get" apos y z cpos) (h : PE X y (tE k W f)) (h' : PE X z (tE k W g)) :
    PE X (.Call (.Attribute (.Name x p) "get" apos) [y, z] [] cpos) (tE k W fun ρ => match ρ[i]? with
      | some (some (.k t kvs)) => (asP (f ρ)).bind fun x => (asP (g ρ)).bind fun y => if keyOk t x = true ∧ b = false then .ok (.v ((getP kvs x).getD y)) else .st
      | _ => .st) := by
  refine pe_imp (pe_dget2 (by omega) (pv_n eN eS h1 h2 h3) h h' m) fun σ H Q ⟨S, ρ, st, q⟩ => ?_
  dsimp only at q
  obtain ⟨t, kvs, er, q⟩ := get_k (r := fun z => tR k W σ H z fun s => ∀ v H', Same H H' → ResOk k (regP S ρ σ) H H' s v → Q v H') q (fun z => z)
  obtain ⟨a, ea, hd⟩ := slot_k st er
  refine ⟨.ref a, ea, a, rfl, dict_is hd, tE.data st (q.bind.mono (Same.refl _) fun d _ q v H1 t1 r1 => ?_)⟩
  refine tE.data (st.mono t1) (q.bind.mono t1 fun e _ q u H2 t2 r2 => ?_)
  obtain ⟨a', ea', hd1⟩ := slot_k ((st.mono t1).mono t2) er
  rw [ea] at ea'
  cases ea'
  by_cases ho : keyOk t d = true ∧ b = false
  · rw [if_pos ho] at q
    obtain ⟨o, g, ho2⟩ := dict_get (htk.trans ho.2) hd1 ho.1 (Rep.mono (part_mono t2 fun _ _ _ z => z) r1)
    refine ⟨o, g, ?_⟩
    rcases ho2 with ⟨e1, e2⟩ | ⟨e', u', e1, e2, e3⟩
    · rw [e1] at q
      rw [e2]
      exact q _ _ (t1.trans t2) r2
    · rw [e1] at q
      rw [e2]
      exact q _ _ (t1.trans t2) e3
  · rw [if_neg ho] at q; exact q.elim
/-- len(d) -/
theorem pe_klen {i : Nat} {x : Str} {p p2 pos : Pos} (eN : X.N = N) (eS : X.env.scope = sc) (h1 : N[i]? = some x) (h2 : visB sc x = true) (h3 : okN x = true) (hg : Gl X "len") (hm : X.mg "len" = none) :
    PE X (.Call (.Name "len" p) [.Name x p2] [] pos) (tE k W fun ρ => match ρ[i]? with
      | some (some (.k _ kvs)) => okI kvs.length
      | _ => .st) := by
  refine pe_imp (pe_callB (call_lenD.or call_len_dT) hg hm PySem.boot_len (pa_cons (pv_n eN eS h1 h2 h3) pa_nil) (by decide) (by decide) rfl rfl) fun σ H Q ⟨S, ρ, st, q⟩ => ?_
  dsimp only at q
  obtain ⟨t, kvs, er, q⟩ := get_k (r := fun z => tR k W σ H z fun s => ∀ v H', Same H H' → ResOk k (regP S ρ σ) H H' s v → Q v H') q (fun z => z)
  obtain ⟨a, ea, hd⟩ := slot_k st er
  refine ⟨.ref a, ea, ?_⟩
  rcases hd with ⟨_, ks, e, r⟩ | ⟨_, ks, e, r⟩
  · refine .inl ⟨a, ks, rfl, e, ?_⟩
    rw [repK_len r]
    exact q _ _ (Same.refl _) ResOk.flatI
  · refine .inr ⟨a, ks, rfl, e, ?_⟩
    rw [repT_len r]
    exact q _ _ (Same.refl _) ResOk.flatI
/-- sorted(d) -/
theorem pe_sortk {i : Nat} {x : Str} {p p2 pos : Pos} (hc : X.calm = true) (eN : X.N = N) (eS : X.env.scope = sc) (h1 : N[i]? = some x) (h2 : visB sc x = true) (h3 : okN x = true) (hg : Gl X "sorted") (hm : X.mg "sorted" = none) :
    PE X (.Call (.Name "sorted" p) [.Name x p2] [] pos) (tE k W fun ρ => match ρ[i]? with
      | some (some (.k true kvs)) => (match tints? (kvs.map (·.1)) with
        | some L => if L.all (fun ns => !ns.isEmpty) = true then .ok (.l ((lexSort L).map tupI)) else .st
        | none => .st)
      | _ => .st) := by
  refine pe_imp (pe_callB (cr_sortDN hc) hg hm (by decide +kernel) (pa_cons (pv_n eN eS h1 h2 h3) pa_nil rfl) (by decide) (by decide) rfl rfl) fun σ H Q ⟨S, ρ, st, q⟩ => ?_
  dsimp only at q
  cases er : ρ[i]? with
  | none => rw [er] at q; exact q.elim
  | some u =>
    cases u with
    | none => rw [er] at q; exact q.elim
    | some s =>
      cases s with
      | v d => rw [er] at q; exact q.elim
      | l d => rw [er] at q; exact q.elim
      | k t kvs =>
        cases t with
        | false => rw [er] at q; exact q.elim
        | true =>
          rw [er] at q
          dsimp only at q
          cases eL : tints? (kvs.map (·.1)) with
          | none => rw [eL] at q; exact q.elim
          | some L =>
            rw [eL] at q
            dsimp only at q
            by_cases hz : L.all (fun ns => !ns.isEmpty) = true
            · rw [if_pos hz] at q
              obtain ⟨a, ea, hd⟩ := slot_k st er
              refine ⟨.ref a, ea, ?_⟩
              rcases hd with ⟨et, _⟩ | ⟨_, ks, e, r⟩
              · cases et
              have ek := repT_tints r (tints_eq eL)
              refine ⟨a, ks, L, rfl, e, ek, all_ne hz, fun L' c pm hL so nc => ?_⟩
              have em : L'.map (·.2) = lexSort L := lexSort_eq pm (List.pairwise_map.mpr so)
              refine q _ _ (same_new nc) ⟨c, _, rfl, nc, upd_same, ?_⟩
              rw [← em]
              refine reps_rows fun x hx => ?_
              have ne : x.1 ≠ c := fun z => by
                have := hL x hx
                rw [z, nc] at this
                cases this
              refine Rep.tup (.inl (part_tup ((upd_ne ne).trans (hL x hx)))) (Reps.of_ints _)
            · rw [if_neg hz] at q; exact q.elim
/-- sorted(set(e)) -/
theorem pe_sset {y : Expr} {p p2 ps pos : Pos} (hk : X.K = k.K) (hc : X.calm = true) (hu : X.A.units + 65 < cLine) (hg : Gl X "sorted") (hm : X.mg "sorted" = none) (hg2 : Gl X "set") (hm2 : X.mg "set" = none) (hn : nsB y = true) (h : PE X y (tE k W f)) :
    PE X (.Call (.Name "sorted" p) [.Call (.Name "set" p2) [y] [] ps] [] pos) (tE k W fun ρ => (asP (f ρ)).bind fun x => match x with
      | .lst xs => (match tints? xs with
        | some L => if L.length < 64 ∧ L.all (fun ns => !ns.isEmpty) = true then .ok (.l ((lexSort (dedup L)).map tupI)) else .st
        | none => .st)
      | _ => .st) := by
  have e1 := pe_callTy (X := X) (cr_setOfT hc (by omega)) hg2 hm2 (by decide +kernel) (pa_cons h pa_nil (star_ns hn _ _)) (by decide) (by decide) (star_ns hn _ _) rfl (pos := ps) (p := p2)
  refine pe_imp (pe_callB (cr_sortSN hc) hg hm (by decide +kernel) (pa_cons e1 pa_nil rfl) (by decide) (by decide) rfl rfl) fun σ H Q ⟨S, ρ, st, q⟩ => ?_
  refine tE.data st (q.bind.mono (Same.refl _) fun x _ q v H1 t1 r1 => ?_)
  cases x <;> try exact False.elim q
  rename_i xs _
  dsimp only at q
  cases eL : tints? xs with
  | none => rw [eL] at q; exact q.elim
  | some L =>
    rw [eL] at q
    dsimp only at q
    by_cases hz : L.length < 64 ∧ L.all (fun ns => !ns.isEmpty) = true
    · rw [if_pos hz] at q
      obtain ⟨a, vs, rfl, hl, rr⟩ := Rep.ofLst r1
      rw [tints_eq eL] at rr
      obtain ⟨M, rfl, e2, hM⟩ := reps_tups rr
      have st1 := st.mono t1
      have le : Same (reg S ρ σ H1) H1 := part_le
      refine ⟨a, M, rfl, by rw [hk]; exact (hl.mono le).sql, fun p hp => by rw [hk]; exact sqT_mono le (rep_ints (hM p hp)), by rw [← e2, List.length_map] at hz; exact hz.1, fun b L1 nb sub all => ?_⟩
      have sm : Same H1 (upd H1 b (SetTO X.prog X.w b L1)) := same_new nb
      refine ⟨b, L1, rfl, upd_same, fun p hp => ⟨sqT_mono (le.trans sm) (by rw [hk]; exact rep_ints (hM p (sub p hp))), all_ne hz.2 _ (by rw [← e2]; exact List.mem_map.mpr ⟨p, sub p hp, rfl⟩)⟩, fun L' c pm nd so nc => ?_⟩
      have em : L'.map (·.2) = lexSort (dedup L) := by
        refine lexSort_eq (dedup_perm nd fun ns => ?_) (List.pairwise_map.mpr so)
        rw [← e2, List.mem_map, List.mem_map]
        constructor
        · rintro ⟨p, hp, rfl⟩
          exact ⟨p, sub p (pm.mem_iff.mp hp), rfl⟩
        · rintro ⟨p, hp, rfl⟩
          obtain ⟨x, hx, e⟩ := List.mem_map.mp (all p hp)
          exact ⟨x, pm.mem_iff.mpr hx, e⟩
      have sm2 : Same (upd H1 b (SetTO X.prog X.w b L1)) (upd (upd H1 b (SetTO X.prog X.w b L1)) c (.lst (L'.map fun q => V.ref q.1))) := same_new nc
      have nc1 : H1 c = none := sm.free nc
      refine q _ _ ((t1.trans sm).trans sm2) ⟨c, _, rfl, t1.free nc1, upd_same, ?_⟩
      rw [← em]
      refine Reps.mono ?_ (reps_rows fun x hx => hM x (sub x (pm.mem_iff.mp hx)))
      refine part_mono (sm.trans sm2) fun d o ed hp => ⟨hp, fun z => ?_⟩
      rw [z, nc1] at ed
      cases ed
    · rw [if_neg hz] at q; exact q.elim
end
end FS

set_option maxRecDepth 100000
set_option autoImplicit false
set_option maxHeartbeats 2000000
/-! Methods of one operand, list(range(a, b)), three comparisons in a row. -/
namespace FS
open PySem PySem.Spec PyProof.Rows L2
section
variable {X : Cx} {k : Kx} {W : WX} {f g h i4 : En → R Sl}
/-! ### three comparisons in a row -/
def tChain3 (r r' r2 : R2) (ta tb tc td : TE) : TE := fun σ H Q => ta σ H fun x H1 => tb σ H1 fun y H2 => r x y H2 fun z H3 => ∃ k, z = .bl k ∧
  (if k = true then tc σ H3 fun w H4 => r' y w H4 fun z2 H5 => ∃ k2, z2 = .bl k2 ∧ (if k2 = true then td σ H5 fun w2 H6 => r2 w w2 H6 Q else Q (.bl false) H5) else Q (.bl false) H3)
variable {a b c d : Expr} {pos : Pos} {ta tb tc td : TE}
theorem pe_chain3 {op op' op2 : CmpOp} {r r' r2 : R2} (ho : OpR X (compareOp op) r) (ho' : OpR X (compareOp op') r') (ho2 : OpR X (compareOp op2) r2) (ha : PE X a ta) (hb : PE X b tb) (hc : PE X c tc) (hd : PE X d td)
    (hm : lastMarks [op, op', op2] [b, c, d] = false) : PE X (.Compare a [op, op', op2] [b, c, d] pos) (tChain3 r r' r2 ta tb tc td) := by
  refine ⟨fun pins s σ H Q I h => ?_⟩
  refine Compare_chain (thn (ha.run pins s σ H _ I h) fun v s1 ⟨x, H1, I1, r1, q1⟩ => chain_link (thn (hb.run pins s1 σ H1 _ I1 q1) fun u s2 ⟨y, H2, I2, r2, q2⟩ =>
    thn (ho pins s2 σ H2 x y v u _ I2 r1 r2 q2) fun d s3 ⟨z, H3, I3, r3, k, e, q3⟩ => ?_)) hm
  subst e
  cases r3
  refine wpAny_truthy_bool ?_
  cases k with
  | false => exact ite_ff ⟨.bl false, H3, I3, rfl, q3⟩
  | true =>
    refine ite_tt (chain_link (thn (hc.run pins s3 σ H3 _ I3 q3) fun w' s4 ⟨z', H4, I4, r4, q4⟩ => thn (ho' pins s4 σ H4 y z' u w' _ I4 r2 r4 q4) fun d' s5 ⟨z2, H5, I5, r5, k2, e2, q5⟩ => ?_))
    subst e2
    cases r5
    refine wpAny_truthy_bool ?_
    cases k2 with
    | false => exact ite_ff ⟨.bl false, H5, I5, rfl, q5⟩
    | true => exact ite_tt (chain_last (thn (hd.run pins s5 σ H5 _ I5 q5) fun w2 s6 ⟨z3, H6, I6, r6, q6⟩ => ho2 pins s6 σ H6 z' z3 w' w2 Q I6 r4 r6 q6))
theorem pt_chain3 {op op' op2 : CmpOp} {r r' r2 : R2} (ho : OpR X (compareOp op) r) (ho' : OpR X (compareOp op') r') (ho2 : OpR X (compareOp op2) r2) (ha : PE X a ta) (hb : PE X b tb) (hc : PE X c tc) (hd : PE X d td)
    (hm : lastMarks [op, op', op2] [b, c, d] = false) : PT X (.Compare a [op, op', op2] [b, c, d] pos) (tTest (tChain3 r r' r2 ta tb tc td)) := by
  refine ⟨fun pins s σ H Q I h => ?_⟩
  refine isTrue_chain (thn (ha.run pins s σ H _ I h) fun v s1 ⟨x, H1, I1, r1, q1⟩ => test_link (thn (hb.run pins s1 σ H1 _ I1 q1) fun u s2 ⟨y, H2, I2, r2, q2⟩ =>
    thn (ho pins s2 σ H2 x y v u _ I2 r1 r2 q2) fun d s3 ⟨z, H3, I3, r3, k, e, q3⟩ => ?_)) hm
  subst e
  cases r3
  refine wpAny_truthy_bool ?_
  cases k with
  | false =>
    obtain ⟨k', e', q'⟩ := q3
    cases e'
    exact ite_ff ⟨H3, I3, q'⟩
  | true =>
    refine ite_tt (test_link (thn (hc.run pins s3 σ H3 _ I3 q3) fun w' s4 ⟨z', H4, I4, r4, q4⟩ => thn (ho' pins s4 σ H4 y z' u w' _ I4 r2 r4 q4) fun d' s5 ⟨z2, H5, I5, r5, k2, e2, q5⟩ => ?_))
    subst e2
    cases r5
    refine wpAny_truthy_bool ?_
    cases k2 with
    | false =>
      obtain ⟨k', e', q'⟩ := q5
      cases e'
      exact ite_ff ⟨H5, I5, q'⟩
    | true =>
      refine ite_tt (test_last (thn (hd.run pins s5 σ H5 _ I5 q5) fun w2 s6 ⟨z3, H6, I6, r6, q6⟩ => thn (ho2 pins s6 σ H6 z' z3 w' w2 _ I6 r4 r6 q6) fun d' s7 ⟨z4, H7, I7, r7, k4, e4, q7⟩ => ?_))
      subst e4
      cases r7
      exact wpAny_truthy_bool ⟨H7, I7, q7⟩
abbrev sem3 (o p q : B) (f g h i4 : En → R Sl) : En → R Sl := fun ρ => (asP (f ρ)).bind fun x => (asP (g ρ)).bind fun y => (asB (bSem o x y)).bind fun b =>
      if b then (asP (h ρ)).bind fun z => (asB (bSem p y z)).bind fun b' => if b' then (asP (i4 ρ)).bind fun w => (asB (bSem q z w)).bind fun b2 => okB b2 else okB false else okB false
theorem imp_chn3 {o p r : B} (hk : X.K = k.K) {σ : L2.St} {H : Hp} {Q : VK} (q : tE k W (sem3 o p r f g h i4) σ H Q) : tChain3 (rB X.K o) (rB X.K p) (rB X.K r) (tE k W f) (tE k W g) (tE k W h) (tE k W i4) σ H Q := by
  obtain ⟨S, ρ, st, q⟩ := q
  rw [hk]
  refine tE.data st (q.bind.mono (Same.refl _) fun x _ q v H1 t1 r1 => ?_)
  refine tE.data (st.mono t1) (q.bind.mono t1 fun y _ q u H2 t2 r2 => ?_)
  have st2 := (st.mono t1).mono t2
  have r1' : Rep k (reg S ρ σ H2) x v := Rep.mono (part_mono t2 fun _ _ _ z => z) r1
  obtain ⟨ne, go⟩ := bOk k o x y
  have q := tR.asB q.bind
  cases e : bSem o x y with
  | ex c => rw [e] at ne; exact ne.elim
  | ask _ _ => rw [e] at ne; exact ne.elim
  | st => rw [e] at q; exact q.elim
  | ok s =>
    rw [e] at q
    obtain ⟨b, rfl, q⟩ := q
    refine go _ e (regP S ρ σ) H2 v u _ (fun a n => st2.fresh n) r1' r2 fun w H3 t3 r3 => ⟨b, r3.bl, ?_⟩
    have t03 := (t1.trans t2).trans t3
    cases b with
    | false =>
      rw [if_neg Bool.false_ne_true] at q ⊢
      exact q _ _ t03 ResOk.flatB
    | true =>
      rw [if_pos rfl] at q ⊢
      refine tE.data (st2.mono t3) (q.bind.mono t03 fun z _ q w H4 t4 r4 => ?_)
      have t04 := t03.trans t4
      have st4 := (st2.mono t3).mono t4
      obtain ⟨ne2, go2⟩ := bOk k p y z
      have q := tR.asB q.bind
      have r2' : Rep k (reg S ρ σ H4) y u := Rep.mono (part_mono (t3.trans t4) fun _ _ _ z => z) r2
      cases e2 : bSem p y z with
      | ex c => rw [e2] at ne2; exact ne2.elim
      | ask _ _ => rw [e2] at ne2; exact ne2.elim
      | st => rw [e2] at q; exact q.elim
      | ok s2 =>
        rw [e2] at q
        obtain ⟨b', rfl, q⟩ := q
        refine go2 _ e2 (regP S ρ σ) H4 u w _ (fun a n => st4.fresh n) r2' r4 fun w' H5 t5 r5 => ⟨b', r5.bl, ?_⟩
        have t05 := t04.trans t5
        cases b' with
        | false =>
          rw [if_neg Bool.false_ne_true] at q ⊢
          exact q _ _ t05 ResOk.flatB
        | true =>
          rw [if_pos rfl] at q ⊢
          refine tE.data (st4.mono t5) (q.bind.mono t05 fun z3 _ q w3 H6 t6 r6 => ?_)
          have t06 := t05.trans t6
          obtain ⟨ne3, go3⟩ := bOk k r z z3
          have q := tR.asB q.bind
          have r4' : Rep k (reg S ρ σ H6) z w := Rep.mono (part_mono (t5.trans t6) fun _ _ _ z => z) r4
          cases e3 : bSem r z z3 with
          | ex c => rw [e3] at ne3; exact ne3.elim
          | ask _ _ => rw [e3] at ne3; exact ne3.elim
          | st => rw [e3] at q; exact q.elim
          | ok s3 =>
            rw [e3] at q
            obtain ⟨b2, rfl, q⟩ := q
            refine go3 _ e3 (regP S ρ σ) H6 w w3 _ (fun a n => ((st4.mono t5).mono t6).fresh n) r4' r6 fun w' H7 t7 r7 => ?_
            exact q _ _ (t06.trans t7) (r7.back t06)
theorem marks3 {o p q : CmpOp} {a b c : Expr} (hc : folB c = true) : lastMarks [o, p, q] [a, b, c] = false := by
  show behindInMarks q c = false
  exact fold_marks hc q
theorem pe_ch3 {o p r : B} {op op' op2 : CmpOp} (hk : X.K = k.K) (hu : X.A.units + 65 < cLine) (e1 : o.cmp = some op) (e2 : p.cmp = some op') (e3 : r.cmp = some op2) (hd : folB d = true) (h1 : PE X a (tE k W f)) (h2 : PE X b (tE k W g)) (h3 : PE X c (tE k W h)) (h4 : PE X d (tE k W i4)) :
    PE X (.Compare a [op, op', op2] [b, c, d] pos) (tE k W (sem3 o p r f g h i4)) :=
  pe_imp (pe_chain3 (opR_cmp hu o op e1) (opR_cmp hu p op' e2) (opR_cmp hu r op2 e3) h1 h2 h3 h4 (marks3 hd)) fun _ _ _ q => imp_chn3 hk q
theorem pt_ch3 {o p r : B} {op op' op2 : CmpOp} (hk : X.K = k.K) (hu : X.A.units + 65 < cLine) (e1 : o.cmp = some op) (e2 : p.cmp = some op') (e3 : r.cmp = some op2) (hd : folB d = true) (h1 : PE X a (tE k W f)) (h2 : PE X b (tE k W g)) (h3 : PE X c (tE k W h)) (h4 : PE X d (tE k W i4)) :
    PT X (.Compare a [op, op', op2] [b, c, d] pos) (tT k W fun ρ => asB (sem3 o p r f g h i4 ρ)) :=
  have i : ∀ σ H Q, tE k W (sem3 o p r f g h i4) σ H Q → tChain3 (rB X.K o) (rB X.K p) (rB X.K r) (tE k W f) (tE k W g) (tE k W h) (tE k W i4) σ H Q := fun _ _ _ q => imp_chn3 hk q
  pt_imp (pt_chain3 (opR_cmp hu o op e1) (opR_cmp hu p op' e2) (opR_cmp hu r op2 e3) h1 h2 h3 h4 (marks3 hd)) fun _ _ _ q => imp_test i q

/-! ### methods of one operand -/
def mbB : Expr → Bool
  | .Name .. => true
  | .Constant .. => true
  | .Subscript .. => true
  | _ => false
theorem mb_base {y : Expr} {m : Str} {env : Env} (h : mbB y = true) : attributeBase y m env (eval y env) = eval y env := by
  cases y <;> first | rfl | cases h
variable {e : Expr} {apos cpos : Pos}
theorem pe_mth {o : Mo} (hk : X.K = k.K) (hu : X.A.units + 65 < cLine) (hb : mbB a = true) (n1 : nsB e = true) (hl : (apos.endLine == cpos.line) = true) (h1 : PE X a (tE k W f)) (h2 : PE X e (tE k W g)) :
    PE X (.Call (.Attribute a o.nm apos) [e] [] cpos) (tE k W fun ρ => (asP (f ρ)).bind fun x => if mK o x = true then (asP (g ρ)).bind (mSem o x) else .st) := by
  have hp : PA X [e] (tCons (tE k W g) tNil) := pa_cons h2 pa_nil (star_ns n1 _ _)
  have few : ((backTo cpos (starEach [e] X.env)).all (fun x => !x.1) && (backToKw cpos (keywordEach [] X.env)).all (fun x => x.1.isSome)
      && decide (([e] : List Expr).length + ([] : List Keyword).length + (if ([] : List Keyword).isEmpty then 0 else 1) < 30)) = true := by rw [star_ns n1]; rfl
  have le : ∀ {p : Addr → Prop} {H : Hp}, Same (part p H) H := part_le
  cases o
  case index =>
    refine pe_imp (pe_bm (cpos := cpos) PySem.F.plainAttrs_list PySem.F.slot_list_index PySem.F.type_list_index (mt_indexD hu) h1 hp (mb_base hb) few hl (star_ns n1 _ _) rfl) fun σ H Q ⟨S, ρ, st, q⟩ => ?_
    refine tE.data st (q.bind.mono (Same.refl _) fun x lf q v H1 t1 r1 => ?_)
    clear lf
    by_cases hm : mK .index x = true
    · rw [if_pos hm] at q
      cases x <;> try cases hm
      rename_i xs
      obtain ⟨p, vs, ev, lv, rv⟩ := r1.ofLst
      refine ⟨by rw [ev, hk]; exact .inl ⟨rfl, vs, (lv.mono le).sql⟩, ?_⟩
      refine tE.data (st.mono t1) (q.bind.mono t1 fun y lf q u H2 t2 r2 => ?_)
      clear lf
      have r1' : Rep k (reg S ρ σ H2) (.lst xs) v := Rep.mono (part_mono t2 fun _ _ _ z => z) r1
      have q : tR k W σ H (mSem .index (.lst xs) y) _ := q
      unfold mSem at q
      dsimp only at q
      by_cases hs : (SeqAt.shaped y.py && SeqAt.shaped (PyData.list (pys xs))) = true
      · rw [if_pos hs] at q
        rw [Bool.and_eq_true] at hs
        cases ej : (pys xs).findIdx? (fun z => PyData.eqv z y.py) with
        | none => rw [ej] at q; exact q.elim
        | some j =>
          rw [ej] at q
          obtain ⟨hj, e1, e2⟩ := List.findIdx?_eq_some_iff_getElem.mp ej
          have s1 : SeqAt.shaped (PD.lst xs).py = true := hs.2
          refine ⟨p, u, y.py, pys xs, j, (pys xs)[j], ev, rfl, ?_, by rw [hk]; exact r2.dpS le hs.1, hs.2, hs.1, List.getElem?_eq_getElem hj, e1, fun m z' hm hz => ?_, q _ _ (t1.trans t2) ResOk.flatI⟩
          · rw [← ev, hk]; exact r1'.dpS le s1
          · obtain ⟨hm2, e3⟩ := List.getElem?_eq_some_iff.mp hz
            have := e2 m hm
            rw [e3] at this
            exact Bool.eq_false_iff.mpr this
      · rw [if_neg hs] at q; exact q.elim
    · rw [if_neg hm] at q; exact q.elim
  case join =>
    refine pe_imp (pe_bm (cpos := cpos) PySem.F.plainAttrs_str PySem.F.slot_str_join PySem.F.type_str_join mt_join h1 hp (mb_base hb) few hl (star_ns n1 _ _) rfl) fun σ H Q ⟨S, ρ, st, q⟩ => ?_
    refine tE.data st (q.bind.mono (Same.refl _) fun x lf q v H1 t1 r1 => ?_)
    clear lf
    by_cases hm : mK .join x = true
    · rw [if_pos hm] at q
      cases x <;> try cases hm
      rename_i s
      have ev := r1.ofStr
      refine ⟨by rw [ev]; exact (rfl : ("str" : String) = "str"), ?_⟩
      refine tE.data (st.mono t1) (q.bind.mono t1 fun y lf q u H2 t2 r2 => ?_)
      clear lf
      have q : tR k W σ H (mSem .join (.str s) y) _ := q
      cases y <;> try exact False.elim q
      rename_i ys _
      unfold mSem at q
      dsimp only at q
      cases es : strs? ys with
      | none => rw [es] at q; exact q.elim
      | some ts =>
        rw [es] at q
        dsimp only at q
        by_cases hz : (ts.map (·.length)).sum + ts.length * s.length ≤ 16777216
        · rw [if_pos hz] at q
          obtain ⟨p, vs, eu, lu, ru⟩ := r2.ofLst
          rw [strs?_eq es] at ru
          rw [Reps.strs ru] at lu
          exact ⟨s, p, ts, ev, by rw [eu], .inl (by rw [hk]; exact (lu.mono le).sql), hz, q _ _ (t1.trans t2) ResOk.flatS⟩
        · rw [if_neg hz] at q; exact q.elim
    · rw [if_neg hm] at q; exact q.elim
  case split =>
    refine pe_imp (pe_bm (cpos := cpos) PySem.F.plainAttrs_str PySem.F.slot_str_split PySem.F.type_str_split mt_split h1 hp (mb_base hb) few hl (star_ns n1 _ _) rfl) fun σ H Q ⟨S, ρ, st, q⟩ => ?_
    refine tE.data st (q.bind.mono (Same.refl _) fun x lf q v H1 t1 r1 => ?_)
    clear lf
    by_cases hm : mK .split x = true
    · rw [if_pos hm] at q
      cases x <;> try cases hm
      rename_i s
      have ev := r1.ofStr
      refine ⟨by rw [ev]; exact (rfl : ("str" : String) = "str"), ?_⟩
      refine tE.data (st.mono t1) (q.bind.mono t1 fun y lf q u H2 t2 r2 => ?_)
      clear lf
      have q : tR k W σ H (mSem .split (.str s) y) _ := q
      cases y <;> try exact False.elim q
      rename_i z _
      unfold mSem at q
      dsimp only at q
      by_cases hz : (z.length == 0) = false ∧ s.length + 2 ≤ sizeLine
      · rw [if_pos hz] at q
        refine ⟨s, z, ev, by rw [r2.ofStr], hz.1, hz.2, fun p n => q _ _ ((t1.trans t2).trans (same_new n)) ?_⟩
        exact (ResOk.newL n (reps_strs _)).back (t1.trans t2)
      · rw [if_neg hz] at q; exact q.elim
    · rw [if_neg hm] at q; exact q.elim
  case strip =>
    refine pe_imp (pe_bm (cpos := cpos) PySem.F.plainAttrs_str PySem.F.slot_str_strip PySem.F.type_str_strip mt_stripChars h1 hp (mb_base hb) few hl (star_ns n1 _ _) rfl) fun σ H Q ⟨S, ρ, st, q⟩ => ?_
    refine tE.data st (q.bind.mono (Same.refl _) fun x lf q v H1 t1 r1 => ?_)
    clear lf
    by_cases hm : mK .strip x = true
    · rw [if_pos hm] at q
      cases x <;> try cases hm
      rename_i s
      have ev := r1.ofStr
      refine ⟨by rw [ev]; exact (rfl : ("str" : String) = "str"), ?_⟩
      refine tE.data (st.mono t1) (q.bind.mono t1 fun y lf q u H2 t2 r2 => ?_)
      clear lf
      have q : tR k W σ H (mSem .strip (.str s) y) _ := q
      cases y <;> try exact False.elim q
      rename_i z _
      unfold mSem at q
      dsimp only at q
      by_cases hz : s.length ≤ sizeLine
      · rw [if_pos hz] at q
        exact ⟨s, z, ev, by rw [r2.ofStr], hz, q _ _ (t1.trans t2) ResOk.flatS⟩
      · rw [if_neg hz] at q; exact q.elim
    · rw [if_neg hm] at q; exact q.elim
/-- list(range(a, b)) -/
theorem pe_lrng {y z : Expr} {p1 p2 p3 p4 : Pos} (hk : X.K = k.K) (hc : X.calm = true) (hg : Gl X "list") (hm : X.mg "list" = none) (hg2 : Gl X "range") (hm2 : X.mg "range" = none) (n1 : nsB y = true) (n2 : nsB z = true) (h1 : PE X y (tE k W f)) (h2 : PE X z (tE k W g)) :
    PE X (.Call (.Name "list" p1) [.Call (.Name "range" p2) [y, z] [] p3] [] p4) (tE k W fun ρ => (asI (f ρ)).bind fun i => (asI (g ρ)).bind fun j => if smallI i ∧ smallI j ∧ (j - i).toNat ≤ 16777216 then .ok (.l (rngItems i j)) else .st) := by
  refine pe_imp (pe_listRg hc hg hm (prg_2 hg2 hm2 h1 h2 (star_ns n1 _ _) (star_ns n2 _ _) (by rw [star_ns n2]; rfl)) rfl) fun σ H Q ⟨S, ρ, st, q⟩ => ?_
  refine ⟨S, ρ, st, (tR.asI q.bind).mono (Same.refl _) fun s _ ⟨i, es, q⟩ v H1 t1 r1 => ?_⟩
  subst es
  have r1 := r1.int
  subst r1
  refine ⟨S, ρ, st.mono t1, (tR.asI q.bind).mono t1 fun s _ ⟨j, es, q⟩ v H2 t2 r2 => ?_⟩
  subst es
  have r2 := r2.int
  subst r2
  refine ⟨i, j, rfl, rfl, ?_⟩
  by_cases hs : smallI i ∧ smallI j ∧ (j - i).toNat ≤ 16777216
  · rw [if_pos hs] at q
    refine ⟨⟨hs.1.1, hs.1.2, hs.2.1.1, hs.2.1.2, hs.2.2⟩, fun l n => q _ _ ((t1.trans t2).trans (same_new n)) ?_⟩
    refine ResOk.back (t1.trans t2) (ResOk.newL n ?_)
    have e1 : rngItems i j = ((List.range (j - i).toNat).map fun (m : Nat) => i + (m : Int)).map PD.int := by unfold rngItems; rw [List.map_map]; rfl
    have e2 : rgV i j = ((List.range (j - i).toNat).map fun (m : Nat) => i + (m : Int)).map V.int := by unfold rgV; rw [List.map_map]; rfl
    rw [e1, e2]
    exact Reps.of_ints _
  · rw [if_neg hs] at q; exact q.elim
end
/-! an exception made, held as a value -/
section
variable {X : Cx} {k : Kx} {W : WX} {f : En → R Sl}
theorem pe_excX {C : Addr} {x : Str} {e : Expr} {ta : TE} {p pos : Pos} (q : PySem.W.excIn X.K C PySem.HandSPX.veTail "ValueError.__new__" = true) (gC : X.mg x = some (.ref C)) (kC : PySem.W.keepIn X.K (.ref C) = true) (hg : Gl X x)
    (he : PE X e ta) (hs : starEach [e] X.env = (false, eval e X.env) :: starEach [] X.env) (hdb : (x == ("__debug__" : Str)) = false) :
    PE X (.Call (.Name x p) [e] [] pos) (fun σ H Q => ta σ H fun _ H1 => ∀ a, H1 a = none → Q (.ref a) (upd H1 a (XO (.ref C) a))) := by
  refine ⟨fun pins s σ H Q I h => ?_⟩
  refine wpAny_Call_Name_kw (ld_glob I hg gC ?_ hdb)
  refine PySem.W.callWith_K (h₀ := X.base) I.ok.mod.kin kC ?_ hs (by rfl)
  rw [hs]
  show wpAny _ _ (spliced ((false, eval e X.env) :: backTo pos (starEach [] X.env))) _ _ s
  refine Calls.spliced_cons (thn (he.run pins s σ H _ I h) fun u s1 ⟨v, H1, I1, r1, q1⟩ => ?_)
  refine Calls.spliced_nil ⟨I1.kIn, ?_⟩
  show wpAny _ _ (call (.ref C) [u]) _ _ _
  obtain ⟨bm, N, nm, qn, bs, hdct, sn, sub, ab, col, dd, k0, k1, k2, k3, k5, mN, hC, hN, hni, T⟩ := exc_obj I1.kIn q
  refine wpAny_call_exc_subT PySem.F.excBase_ValueError T hC hN hni (fun h' a hm => ?_) (by show 1 ≤ sizeLine; rw [sizeLine_eq]; omega)
  have hn : H1 a = none := I1.hok.gone hm.new
  obtain ⟨t, ht, _, _⟩ := hm.there
  exact ⟨.ref a, upd H1 a (XO (.ref C) a), I1.laidN hm.keeps hm.new hn (xo_ok ht ⟨rfl, rfl⟩ rfl), rfl, q1 a hn⟩
theorem pe_mkx {nc j : Nat} {C : Addr} {x : Str} {e : Expr} {p pos : Pos} (ec : k.cv j = .ref C) (q : PySem.W.excIn X.K C PySem.HandSPX.veTail "ValueError.__new__" = true) (gC : X.mg x = some (.ref C)) (kC : PySem.W.keepIn X.K (.ref C) = true) (hg : Gl X x)
    (hdb : (x == ("__debug__" : Str)) = false) (hn : nsB e = true) (he : PE X e (tE k W f)) :
    PE X (.Call (.Name x p) [e] [] pos) (tE k W fun ρ => (asP (f ρ)).bind fun _ => if j < nc then .ok (.v (.exn j)) else .st) := by
  refine pe_imp (pe_excX q gC kC hg he (star_ns hn _ _) hdb) fun σ H Q ⟨S, ρ, st, q⟩ => ?_
  refine tE.data st (q.bind.mono (Same.refl _) fun y _ q v H1 t1 r1 => ?_)
  by_cases hj : j < nc
  · have q : tR k W σ H (if j < nc then R.ok (Sl.v (PD.exn j)) else .st) _ := q
    rw [if_pos hj] at q
    intro a na
    have pa : regP S ρ σ a := (st.mono t1).fresh na
    refine q _ _ (t1.trans (same_new na)) (ResOk.back t1 ?_)
    show Rep k (part _ (upd H1 a (XO (.ref C) a))) (.exn j) (.ref a)
    simp only [Rep]
    exact ⟨a, rfl, by rw [part_eq pa, upd_same, ec]⟩
  · have q : tR k W σ H (if j < nc then R.ok (Sl.v (PD.exn j)) else .st) _ := q
    rw [if_neg hj] at q
    exact q.elim
end
end FS

set_option maxRecDepth 100000
set_option autoImplicit false
set_option maxHeartbeats 2000000
/-! Whether a text is what the small language has of it: expressions. -/
namespace FS
open PySem PySem.Spec L2

theorem plain_ix {e : Expr} (h : plB e = true) : PlainIx e := fun o i => by
  cases e <;> first | rfl | cases h
/-- the built-in function of two operands -/
def B.cl : B → Option (Str × String)
  | .max2 => some ("max", "max")
  | .min2 => some ("min", "min")
  | .divm => some ("divmod", "divmod")
  | _ => none

mutual
def chE (c : Cc) : E → Bool → Scope → Expr → Bool
  | .var i, _, sc, x => match x with
    | .Name n _ => decide (c.N[i]? = some n) && visB sc n && okN n
    | _ => false
  | .lit d, _, _, x => match x with
    | .Constant q _ _ => match d, q with
      | .int i, .int j => decide (i = j)
      | .bl i, .bool j => decide (i = j)
      | .str i, .str j => decide (i = j)
      | .non, .none => true
      | _, _ => false
    | _ => false
  | .glo j, _, sc, x => match x with
    | .Name n _ => decide (c.glos[j]? = some n) && glB sc n && okN n
    | _ => false
  | .u o a, _, sc, x => match x with
    | .UnaryOp q y _ => decide (o = .neg) && decide (q = .USub) && chE c a false sc y
    | .Call (.Name n _) [y] [] _ => decide ((o.cl).map (·.1) = some n) && decide (n ∈ c.bn) && glB sc n && nsB y && chE c a false sc y && (decide (o ≠ .strd) || c.gd)
    | _ => false
  | .b o a d, _, sc, x => match x with
    | .BinOp y q z _ => decide (o.bin = some q) && chE c a false sc y && chE c d false sc z
    | .Compare y [q] [z] _ => decide (o.cmp = some q) && folB z && chE c a false sc y && chE c d false sc z
    | .Subscript y z _ => decide (o = .idx) && plB z && chE c a false sc y && chE c d false sc z
    | .Call (.Name n _) [y, z] [] _ => decide ((o.cl).map (·.1) = some n) && decide (n ∈ c.bn) && glB sc n && nsB y && nsB z && chE c a false sc y && chE c d false sc z
    | _ => false
  | .isi many ts a, _, sc, x => match x with
    | .Call (.Name n _) [y, z] [] _ => decide (n = "isinstance") && decide (n ∈ c.bn) && glB sc n && nsB y && chE c a false sc y && (match many, ts, z with
      | false, [t], z => tyC c sc t z
      | true, t :: ts, .Tuple es _ _ => decide ((t :: ts).length ≤ 100) && tysC c sc (t :: ts) es
      | _, _, _ => false)
    | _ => false
  | .slc a lo hi, _, sc, x => match x with
    | .Subscript y (.Slice l h none _) _ => chE c a false sc y && chO c lo sc l && chO c hi sc h
    | _ => false
  | .rev a, _, sc, x => match x with
    | .Subscript y (.Slice none none (some (.UnaryOp .USub (.Constant (.int 1) _ _) _)) _) _ => chE c a false sc y
    | _ => false
  | .rep a d, _, sc, x => match x with
    | .BinOp y .Mult z _ => chE c a false sc y && chE c d false sc z
    | _ => false
  | .and a d, m, sc, x => match x with
    | .BoolOp .And (y :: z :: r) p => chE c a m sc y && chE c d m sc (match r with
      | [] => z
      | _ => .BoolOp .And (z :: r) p)
    | _ => false
  | .or a d, m, sc, x => match x with
    | .BoolOp .Or (y :: z :: r) p => chE c a m sc y && chE c d m sc (match r with
      | [] => z
      | _ => .BoolOp .Or (z :: r) p)
    | _ => false
  | .not a, m, sc, x => match x with
    | .UnaryOp .Not y _ => chE c a m sc y
    | _ => false
  | .ite t a d, m, sc, x => match x with
    | .IfExp q y z _ => !m && chE c t true sc q && chE c a false sc y && chE c d false sc z
    | _ => false
  | .chn o p a d e, _, sc, x => match x with
    | .Compare y [q, q'] [z, w] _ => decide (o.cmp = some q) && decide (p.cmp = some q') && folB w && chE c a false sc y && chE c d false sc z && chE c e false sc w
    | _ => false
  | .chn3 o p q a d e f, _, sc, x => match x with
    | .Compare y [q1, q2, q3] [z, w, v] _ => decide (o.cmp = some q1) && decide (p.cmp = some q2) && decide (q.cmp = some q3) && folB v && chE c a false sc y && chE c d false sc z && chE c e false sc w && chE c f false sc v
    | _ => false
  | .mth o a e, _, sc, x => match x with
    | .Call (.Attribute y m ap) [z] [] cp => decide (m = o.nm) && mbB y && (ap.endLine == cp.line) && nsB z && chE c a false sc y && chE c e false sc z
    | _ => false
  | .lrng a d, _, sc, x => match x with
    | .Call (.Name n _) [.Call (.Name m _) [y, z] [] _] [] _ => decide (n = "list") && decide (("list" : Str) ∈ c.bn) && glB sc "list" && decide (m = "range") && decide (("range" : Str) ∈ c.bn) && glB sc "range" && nsB y && nsB z && chE c a false sc y && chE c d false sc z
    | _ => false
  | .mkx j e, _, sc, x => match x with
    | .Call (.Name n _) [y] [] _ => decide (c.cls[j]? = some n) && glB sc n && okN n && nsB y && chE c e false sc y
    | _ => false
  | .tup es, _, sc, x => match x with
    | .Tuple ys _ _ => chA c es sc ys
    | _ => false
  | .pget i e, _, sc, x => match x with
    | .Subscript (.Name n _) y _ => decide (c.N[i]? = some n) && visB sc n && okN n && plB y && chE c e false sc y
    | _ => false
  | .oget i e, _, sc, x => match x with
    | .Subscript (.Name n _) y _ => decide (c.N[i]? = some n) && visB sc n && okN n && plB y && chE c e false sc y
    | _ => false
  | .kget i e, _, sc, x => match x with
    | .Subscript (.Name n _) y _ => decide (c.N[i]? = some n) && visB sc n && okN n && plB y && chE c e false sc y
    | _ => false
  | .kin n i e, _, sc, x => match x with
    | .Compare y [q] [.Name m _] _ => decide (q = if n = true then .NotIn else .In) && decide (c.N[i]? = some m) && visB sc m && okN m && chE c e false sc y
    | _ => false
  | .kgetd i e d, _, sc, x => match x with
    | .Call (.Attribute (.Name n _) m ap) [y, z] [] cp => decide (m = "get") && decide (c.N[i]? = some n) && visB sc n && okN n && (ap.endLine == cp.line) && nsB y && nsB z && chE c e false sc y && chE c d false sc z
    | _ => false
  | .klen i, _, sc, x => match x with
    | .Call (.Name n _) [.Name m _] [] _ => decide (n = "len") && decide (("len" : Str) ∈ c.bn) && glB sc "len" && decide (c.N[i]? = some m) && visB sc m && okN m
    | _ => false
  | .sortk i, _, sc, x => match x with
    | .Call (.Name n _) [.Name m _] [] _ => decide (n = "sorted") && decide (("sorted" : Str) ∈ c.bn) && glB sc "sorted" && decide (c.N[i]? = some m) && visB sc m && okN m
    | _ => false
  | .sset e, _, sc, x => match x with
    | .Call (.Name n _) [.Call (.Name m _) [y] [] _] [] _ => decide (n = "sorted") && decide (("sorted" : Str) ∈ c.bn) && glB sc "sorted" && decide (m = "set") && decide (("set" : Str) ∈ c.bn) && glB sc "set" && nsB y && chE c e false sc y
    | _ => false
  | .dct0 _, _, _, x => match x with
    | .Dict [] [] _ => true
    | _ => false
  | .dct1 a d, _, sc, x => match x with
    | .Dict [some y] [z] _ => chE c a false sc y && chE c d false sc z
    | _ => false
  | .lst es, _, sc, x => match x with
    | .List ys _ => chA c es sc ys
    | _ => false
  | .call f es, _, sc, x => match x with
    | .Call (.Name n _) (y :: ys) [] _ => decide (c.fns[f]? = some n) && glB sc n && okN n && chA c es sc (y :: ys)
    | .Call (.Name n _) [] [] _ => decide (c.fns[f]? = some n) && glB sc n && okN n && chA c es sc []
    | _ => false
  | .comp own t it cn e, _, sc, x => match x with
    | .ListComp el [⟨tg, iter, ifs, 0⟩] scope _ => blkC c.N sc scope own && t.slots.all (fun i => decide (i ∈ own.map (·.2))) && chG c scope t tg && chI c it sc tg iter && (match ifs with
      | [] => (match cn with
        | .lit (.bl true) => true
        | _ => false)
      | [q] => chE c cn true (relS scope sc) q
      | _ => false) && chE c e false (relS scope sc) el
    | _ => false
  | .bor e, m, sc, x => chE c e m sc x
  | _, _, _, _ => false
def chA (c : Cc) : E → Scope → List Expr → Bool
  | .nil, _, x => match x with
    | [] => true
    | _ => false
  | .cons e es, sc, x => match x with
    | y :: ys => nsB y && chE c e false sc y && chA c es sc ys
    | _ => false
  | _, _, _ => false
def chI (c : Cc) : E → Scope → Expr → Expr → Bool
  | .seq e, sc, _, x => folB x && chE c e false sc x
  | .rng es, sc, _, x => match x with
    | .Call (.Name n _) [y] [] _ => decide (n = "range") && decide (n ∈ c.bn) && glB sc n && chA c es sc [y]
    | .Call (.Name n _) [y, z] [] _ => decide (n = "range") && decide (n ∈ c.bn) && glB sc n && chA c es sc [y, z]
    | .Call (.Name n _) [y, z, w] [] _ => decide (n = "range") && decide (n ∈ c.bn) && glB sc n && chA c es sc [y, z, w]
    | _ => false
  | .zip a d, sc, tg, x => match tg with
    | .Tuple _ _ _ => (match x with
      | .Call (.Name n _) [y, z] [] _ => decide (n = "zip") && decide (n ∈ c.bn) && glB sc n && nsB y && nsB z && chE c a false sc y && chE c d false sc z
      | _ => false)
    | _ => false
  | .enum a, sc, tg, x => match tg with
    | .Tuple _ _ _ => (match x with
      | .Call (.Name n _) [y] [] _ => decide (n = "enumerate") && decide (n ∈ c.bn) && glB sc n && nsB y && chE c a false sc y
      | _ => false)
    | _ => false
  | _, _, _, _ => false
def chO (c : Cc) : E → Scope → Option Expr → Bool
  | .no, _, x => match x with
    | none => true
    | _ => false
  | .cons e t, sc, x => match x with
    | some y => chE c e false sc y && (match t with
      | .no => true
      | _ => false)
    | _ => false
  | _, _, _ => false
end
end FS

set_option maxRecDepth 100000
set_option autoImplicit false
set_option maxHeartbeats 4000000
/-! A text that is what the small language has of it does what that tells: expressions. -/
namespace FS
open PySem PySem.Spec L2

structure Snd (c : Cc) (g : Gs) (k : Kx) (e : E) : Prop where
  pe : ∀ (W : WX) (sc sw : Scope) (X : Cx) (x : Expr), Ok c g k W sc sw X → chE c e false sc x = true → PE X x (tE k W (ev g e))
  pt : ∀ (W : WX) (sc sw : Scope) (X : Cx) (x : Expr), Ok c g k W sc sw X → chE c e true sc x = true → PT X x (tT k W fun ρ => asB (ev g e ρ))
  pa : ∀ (W : WX) (sc sw : Scope) (X : Cx) (x : List Expr), Ok c g k W sc sw X → chA c e sc x = true → PA X x (tA k W (evs g e)) ∧ x.all nsB = true ∧ ∀ ρ ds, (evs g e ρ).Leaf ds → ds.length = x.length
  pi : ∀ (W : WX) (sc sw : Scope) (X : Cx) (tg x : Expr), Ok c g k W sc sw X → chI c e sc tg x = true → PI X tg x (tI k W (evi g e)) ∧ ∀ y, foldedSetIterable x X.env y = pure y
  po : ∀ (W : WX) (sc sw : Scope) (X : Cx) (x : Option Expr), Ok c g k W sc sw X → chO c e sc x = true → PO X x (tPo k W (evo g e))

theorem and5 {a b : Bool} (h : (a && b) = true) : a = true ∧ b = true := by rwa [Bool.and_eq_true] at h
theorem pt_eq {X : Cx} {x : Expr} {k : Kx} {W : WX} {f f' : En → R Bool} (p : PT X x (tT k W f)) (h : ∀ ρ, f ρ = f' ρ) : PT X x (tT k W f') := tT.eq h p
theorem pe_eq {X : Cx} {x : Expr} {k : Kx} {W : WX} {f f' : En → R Sl} (p : PE X x (tE k W f)) (h : ∀ ρ, f ρ = f' ρ) : PE X x (tE k W f') := by
  have : f = f' := funext h
  rw [← this]; exact p
theorem pa_eq {X : Cx} {x : List Expr} {k : Kx} {W : WX} {f f' : En → R (List PD)} (p : PA X x (tA k W f)) (h : ∀ ρ, f ρ = f' ρ) : PA X x (tA k W f') := by
  have : f = f' := funext h
  rw [← this]; exact p
theorem pi_eq {X : Cx} {tg x : Expr} {k : Kx} {W : WX} {f f' : En → R (List PD)} (p : PI X tg x (tI k W f)) (h : ∀ ρ, f ρ = f' ρ) : PI X tg x (tI k W f') := by
  have : f = f' := funext h
  rw [← this]; exact p
theorem po_eq {X : Cx} {x : Option Expr} {k : Kx} {W : WX} {f f' : En → R (Option Int)} (p : PO X x (tPo k W f)) (h : ∀ ρ, f ρ = f' ρ) : PO X x (tPo k W f') := by
  have : f = f' := funext h
  rw [← this]; exact p

section
variable {c : Cc} {g : Gs} {k : Kx}
abbrev HE (c : Cc) (g : Gs) (k : Kx) (e : E) (m : Bool) : Prop := ∀ (W : WX) (sc sw : Scope) (X : Cx) (x : Expr), Ok c g k W sc sw X → chE c e m sc x = true → PE X x (tE k W (ev g e))
abbrev HT (c : Cc) (g : Gs) (k : Kx) (e : E) : Prop := ∀ (W : WX) (sc sw : Scope) (X : Cx) (x : Expr), Ok c g k W sc sw X → chE c e true sc x = true → PT X x (tT k W fun ρ => asB (ev g e ρ))
/-- an expression -/
theorem Snd.ex {e : E} (hE : HE c g k e false) (hT : HT c g k e) (hA : ∀ sc x, ¬ chA c e sc x = true) (hI : ∀ sc t x, ¬ chI c e sc t x = true) (hO : ∀ sc x, ¬ chO c e sc x = true) : Snd c g k e :=
  ⟨hE, hT, fun _ sc _ _ x _ h => absurd h (hA sc x), fun _ sc _ _ t x _ h => absurd h (hI sc t x), fun _ sc _ _ x _ h => absurd h (hO sc x)⟩
/-- an expression that is tested by its value -/
theorem Snd.val {e : E} (hE : ∀ m, HE c g k e m) (hp : ∀ sc x, chE c e true sc x = true → ptB x = true) (hA : ∀ sc x, ¬ chA c e sc x = true) (hI : ∀ sc t x, ¬ chI c e sc t x = true) (hO : ∀ sc x, ¬ chO c e sc x = true) : Snd c g k e :=
  Snd.ex (hE false) (fun W sc sw X x o h => pt_of (hp sc x h) (hE true W sc sw X x o h)) hA hI hO

theorem boot_b {o : B} {x : Str} {id : String} (h : o.cl = some (x, id)) : bootBuiltins x = some (.builtin id) := by
  cases o <;> simp only [B.cl, Option.some.injEq, Prod.mk.injEq, reduceCtorEq] at h <;> obtain ⟨rfl, rfl⟩ := h <;> decide +kernel
theorem call_b {X : Cx} (hc : X.calm = true) {o : B} {x : Str} {id : String} (h : o.cl = some (x, id)) : CallR X (.builtin id) (fun vs H Q => ∃ v u, vs = [v, u] ∧ rB X.K o v u H Q) := by
  have w : ∀ {f : Value} {r : List V → Hp → VK → Prop} {r' : R2}, CallR X f r → (∀ v u H Q, r' v u H Q → r [v, u] H Q) → CallR X f (fun vs H Q => ∃ v u, vs = [v, u] ∧ r' v u H Q) :=
    fun hr hi pins s σ H xs us Q I rv ⟨v, u, e, q⟩ => hr pins s σ H xs us Q I rv (by rw [e]; exact hi v u H Q q)
  cases o <;> simp only [B.cl, Option.some.injEq, Prod.mk.injEq, reduceCtorEq] at h <;> obtain ⟨rfl, rfl⟩ := h
  · exact w (call_max2 hc) fun _ _ _ _ q => q
  · exact w (call_min2 hc) fun _ _ _ _ q => q
  · exact w call_divmod fun _ _ _ _ q => q
theorem pe_b2c {X : Cx} {W : WX} {f h : En → R Sl} {o : B} {x : Str} {id : String} {a d : Expr} {p pos : Pos} (hk : X.K = k.K) (hc : X.calm = true) (hcl : o.cl = some (x, id)) (hg : Gl X x) (hm : X.mg x = none) (n1 : nsB a = true) (n2 : nsB d = true)
    (h1 : PE X a (tE k W f)) (h2 : PE X d (tE k W h)) : PE X (.Call (.Name x p) [a, d] [] pos) (tE k W fun ρ => (asP (f ρ)).bind fun x => (asP (h ρ)).bind (bSem o x)) := by
  have ha : PA X [a, d] (tCons (tE k W f) (tCons (tE k W h) tNil)) := pa_cons h1 (pa_cons h2 pa_nil (star_ns n2 _ _)) (star_ns n1 _ _)
  have nn : x ≠ "__name__" ∧ (x == ("__debug__" : Str)) = false := by
    cases o <;> simp only [B.cl, Option.some.injEq, Prod.mk.injEq, reduceCtorEq] at hcl <;> obtain ⟨rfl, rfl⟩ := hcl <;> exact ⟨by decide, by decide⟩
  refine pe_imp (pe_callB (call_b hc hcl) hg hm (boot_b hcl) ha nn.1 nn.2 (star_ns n1 _ _) (by rw [star_ns n2]; rfl)) fun σ H Q q => ?_
  obtain ⟨S, ρ, st, q⟩ := imp_op (f := f) (g := h) (W := W) (bOk k o) q
  refine ⟨S, ρ, st, q.mono (Same.refl _) fun s _ z v H1 t1 r1 => ?_⟩
  obtain ⟨S2, ρ2, st2, q2⟩ := z v H1 t1 r1
  refine ⟨S2, ρ2, st2, q2.mono (Same.refl _) fun s _ z u H2 t2 r2 => ⟨v, u, rfl, ?_⟩⟩
  rw [hk]; exact z u H2 t2 r2
theorem pe_ixg {X : Cx} {W : WX} {f h : En → R Sl} {a d : Expr} {pos : Pos} (hk : X.K = k.K) (hp : plB d = true) (h1 : PE X a (tE k W f)) (h2 : PE X d (tE k W h)) :
    PE X (.Subscript a d pos) (tE k W fun ρ => (asP (f ρ)).bind fun x => (asP (h ρ)).bind (bSem .idx x)) :=
  pe_imp (pe_ix ix_seq h1 h2 (plain_ix hp)) fun _ _ _ q => by rw [hk]; exact imp_op (bOk k .idx) q

theorem cl_of {o : U} {n : Str} (h : (o.cl).map (·.1) = some n) : ∃ q, o.cl = some (n, q) := by
  cases e : o.cl with
  | none => rw [e] at h; cases h
  | some p =>
    rw [e] at h
    cases h
    exact ⟨p.2, rfl⟩
theorem clb_of {o : B} {n : Str} (h : (o.cl).map (·.1) = some n) : ∃ q, o.cl = some (n, q) := by
  cases e : o.cl with
  | none => rw [e] at h; cases h
  | some p =>
    rw [e] at h
    cases h
    exact ⟨p.2, rfl⟩

theorem snd_u {o : U} {a : E} (ih : Snd c g k a) (lv : 1 ≤ c.lev) (m : Bool) : HE c g k (.u o a) m := by
  intro W sc sw X x oo h
  refine pe_eq ?_ fun ρ => (show (asP (ev g a ρ)).bind (uSem o) = ev g (.u o a) ρ by simp only [ev])
  unfold chE at h
  split at h
  · simp only [Bool.and_eq_true, decide_eq_true_eq] at h
    obtain ⟨⟨rfl, rfl⟩, h⟩ := h
    exact pe_neg (ih.pe _ _ _ _ _ oo h)
  · simp only [Bool.and_eq_true, decide_eq_true_eq] at h
    obtain ⟨⟨⟨⟨⟨h1, h2⟩, h3⟩, h4⟩, h5⟩, h6⟩ := h
    obtain ⟨q, e⟩ := cl_of h1
    have hg : o = .strd → X.A.guards = some [] ∧ X.A.units + 65 < cLine := fun eo => by
      subst eo
      exact ⟨oo.gd (by simpa using h6), oo.hu lv⟩
    exact pe_u1 oo.hK oo.calm hg e (gl_of oo.hsc h3) (oo.bn _ h2) h4 (ih.pe _ _ _ _ _ oo h5)
  · cases h
theorem snd_b {o : B} {a d : E} (iha : Snd c g k a) (ihd : Snd c g k d) (lv : 1 ≤ c.lev) (m : Bool) : HE c g k (.b o a d) m := by
  intro W sc sw X x oo h
  refine pe_eq ?_ fun ρ => (show ((asP (ev g a ρ)).bind fun x => (asP (ev g d ρ)).bind (bSem o x)) = ev g (.b o a d) ρ by simp only [ev])
  unfold chE at h
  split at h
  · simp only [Bool.and_eq_true, decide_eq_true_eq] at h
    obtain ⟨⟨h1, h2⟩, h3⟩ := h
    exact pe_b2 oo.hK h1 (iha.pe _ _ _ _ _ oo h2) (ihd.pe _ _ _ _ _ oo h3)
  · simp only [Bool.and_eq_true, decide_eq_true_eq] at h
    obtain ⟨⟨⟨h1, h2⟩, h3⟩, h4⟩ := h
    exact pe_c2 oo.hK (oo.hu lv) h1 (fold_marks h2 _) (iha.pe _ _ _ _ _ oo h3) (ihd.pe _ _ _ _ _ oo h4)
  · simp only [Bool.and_eq_true, decide_eq_true_eq] at h
    obtain ⟨⟨⟨rfl, h2⟩, h3⟩, h4⟩ := h
    exact pe_ixg oo.hK h2 (iha.pe _ _ _ _ _ oo h3) (ihd.pe _ _ _ _ _ oo h4)
  · simp only [Bool.and_eq_true, decide_eq_true_eq] at h
    obtain ⟨⟨⟨⟨⟨⟨h1, h2⟩, h3⟩, h4⟩, h5⟩, h6⟩, h7⟩ := h
    obtain ⟨q, e⟩ := clb_of h1
    exact pe_b2c oo.hK oo.calm e (gl_of oo.hsc h3) (oo.bn _ h2) h4 h5 (iha.pe _ _ _ _ _ oo h6) (ihd.pe _ _ _ _ _ oo h7)
  · cases h
theorem sndT_b {o : B} {a d : E} (iha : Snd c g k a) (ihd : Snd c g k d) (lv : 1 ≤ c.lev) : HT c g k (.b o a d) := by
  intro W sc sw X x oo h
  by_cases hp : ptB x = true
  · exact pt_of hp (snd_b iha ihd lv true W sc sw X x oo h)
  refine pt_eq ?_ fun ρ => (show asB ((asP (ev g a ρ)).bind fun x => (asP (ev g d ρ)).bind (bSem o x)) = asB (ev g (.b o a d) ρ) by simp only [ev])
  unfold chE at h
  split at h
  · exact absurd rfl hp
  · simp only [Bool.and_eq_true, decide_eq_true_eq] at h
    obtain ⟨⟨⟨h1, h2⟩, h3⟩, h4⟩ := h
    exact pt_c2 oo.hK (oo.hu lv) h1 (fold_marks h2 _) (iha.pe _ _ _ _ _ oo h3) (ihd.pe _ _ _ _ _ oo h4)
  · exact absurd rfl hp
  · exact absurd rfl hp
  · cases h
theorem snd_isi {mm : Bool} {ts : List Ty} {a : E} (ih : Snd c g k a) (m : Bool) : HE c g k (.isi mm ts a) m := by
  intro W sc sw X x oo h
  refine pe_eq ?_ fun ρ => (show isiE g ts (ev g a) ρ = ev g (.isi mm ts a) ρ by first | (simp only [ev, isiE]; done) | (simp only [ev, isiE]; rfl))
  unfold chE at h
  split at h
  · simp only [Bool.and_eq_true, decide_eq_true_eq] at h
    obtain ⟨⟨⟨⟨⟨rfl, h2⟩, h3⟩, h4⟩, h5⟩, h6⟩ := h
    split at h6
    · exact pe_is1 oo.toOkQ h3 h2 h4 h6 (ih.pe _ _ _ _ _ oo h5)
    · simp only [Bool.and_eq_true, decide_eq_true_eq] at h6
      exact pe_isT oo.toOkQ h3 h2 h4 h6.1 (by simp) h6.2 (ih.pe _ _ _ _ _ oo h5)
    · cases h6
  · cases h
theorem R.bind_self {α : Type} (r : R α) : (r.bind fun a => .ok a) = r := by
  induction r with
  | ok a => rfl
  | ex c => rfl
  | st => rfl
  | ask m k ih => simp only [R.bind_ask, ih]
theorem asB_bind {α : Type} (r : R α) (f : α → R Sl) : asB (r.bind f) = r.bind fun a => asB (f a) := R.bind_assoc r f _
theorem asB_okB2 (r : R Bool) : asB (r.bind fun b => okB b) = r := by
  rw [asB_bind]
  exact R.bind_self r
theorem snd_bool {a d : E} (iha : Snd c g k a) (ihd : Snd c g k d) : HE c g k (.and a d) false ∧ HT c g k (.and a d) ∧ HE c g k (.or a d) false ∧ HT c g k (.or a d) := by
  refine ⟨?_, ?_, ?_, ?_⟩ <;> intro W sc sw X x oo h <;> unfold chE at h <;> split at h <;> try cases h
  · rename_i y z r p
    obtain ⟨h1, h2⟩ := and5 h
    refine pe_eq (pe_an (iha.pe _ _ _ _ _ oo h1) (g := ev g d) ?_) fun ρ => by simp only [ev]
    cases r with
    | nil => exact pe_one (ihd.pe _ _ _ _ _ oo h2)
    | cons _ _ => exact ihd.pe _ _ _ _ _ oo h2
  · rename_i y z r p
    obtain ⟨h1, h2⟩ := and5 h
    refine pt_eq (pt_an (iha.pt _ _ _ _ _ oo h1) (gb := fun ρ => asB (ev g d ρ)) ?_) fun ρ => ?_
    · cases r with
      | nil => exact pt_one' (ihd.pt _ _ _ _ _ oo h2)
      | cons _ _ => exact ihd.pt _ _ _ _ _ oo h2
    · simp only [ev]
      rw [asB_bind]
      refine congrArg _ (funext fun b => ?_)
      cases b with
      | true => first | rfl | exact (asB_okB2 _).symm | (rw [if_pos rfl, if_pos rfl]; exact (asB_okB2 _).symm) | (rw [if_neg Bool.false_ne_true, if_neg Bool.false_ne_true]; exact (asB_okB2 _).symm)
      | false => first | rfl | exact (asB_okB2 _).symm | (rw [if_pos rfl, if_pos rfl]; exact (asB_okB2 _).symm) | (rw [if_neg Bool.false_ne_true, if_neg Bool.false_ne_true]; exact (asB_okB2 _).symm)
  · rename_i y z r p
    obtain ⟨h1, h2⟩ := and5 h
    refine pe_eq (pe_or' (iha.pe _ _ _ _ _ oo h1) (g := ev g d) ?_) fun ρ => by simp only [ev]
    cases r with
    | nil => exact pe_one (ihd.pe _ _ _ _ _ oo h2)
    | cons _ _ => exact ihd.pe _ _ _ _ _ oo h2
  · rename_i y z r p
    obtain ⟨h1, h2⟩ := and5 h
    refine pt_eq (pt_or' (iha.pt _ _ _ _ _ oo h1) (gb := fun ρ => asB (ev g d ρ)) ?_) fun ρ => ?_
    · cases r with
      | nil => exact pt_one' (ihd.pt _ _ _ _ _ oo h2)
      | cons _ _ => exact ihd.pt _ _ _ _ _ oo h2
    · simp only [ev]
      rw [asB_bind]
      refine congrArg _ (funext fun b => ?_)
      cases b with
      | true => first | rfl | exact (asB_okB2 _).symm | (rw [if_pos rfl, if_pos rfl]; exact (asB_okB2 _).symm) | (rw [if_neg Bool.false_ne_true, if_neg Bool.false_ne_true]; exact (asB_okB2 _).symm)
      | false => first | rfl | exact (asB_okB2 _).symm | (rw [if_pos rfl, if_pos rfl]; exact (asB_okB2 _).symm) | (rw [if_neg Bool.false_ne_true, if_neg Bool.false_ne_true]; exact (asB_okB2 _).symm)
theorem snd_not {a : E} (ih : Snd c g k a) : HE c g k (.not a) false ∧ HT c g k (.not a) := by
  refine ⟨?_, ?_⟩ <;> intro W sc sw X x oo h <;> unfold chE at h <;> split at h <;> try cases h
  · exact pe_eq (pe_nt (ih.pe _ _ _ _ _ oo h)) fun ρ => by simp only [ev]
  · refine pt_eq (pt_nt (ih.pt _ _ _ _ _ oo h)) fun ρ => ?_
    simp only [ev]
    rw [asB_bind]
    rfl
theorem snd_chn {o p : B} {a d e : E} (iha : Snd c g k a) (ihd : Snd c g k d) (ihe : Snd c g k e) (lv : 1 ≤ c.lev) : HE c g k (.chn o p a d e) false ∧ HT c g k (.chn o p a d e) := by
  refine ⟨?_, ?_⟩ <;> intro W sc sw X x oo h <;> unfold chE at h <;> split at h <;> try cases h
  · simp only [Bool.and_eq_true, decide_eq_true_eq] at h
    obtain ⟨⟨⟨⟨⟨h1, h2⟩, h3⟩, h4⟩, h5⟩, h6⟩ := h
    exact pe_eq (pe_ch oo.hK (oo.hu lv) h1 h2 h3 (iha.pe _ _ _ _ _ oo h4) (ihd.pe _ _ _ _ _ oo h5) (ihe.pe _ _ _ _ _ oo h6)) fun ρ => by simp only [ev]
  · simp only [Bool.and_eq_true, decide_eq_true_eq] at h
    obtain ⟨⟨⟨⟨⟨h1, h2⟩, h3⟩, h4⟩, h5⟩, h6⟩ := h
    exact pt_eq (pt_ch oo.hK (oo.hu lv) h1 h2 h3 (iha.pe _ _ _ _ _ oo h4) (ihd.pe _ _ _ _ _ oo h5) (ihe.pe _ _ _ _ _ oo h6)) fun ρ => by simp only [ev]
theorem snd_chn3 {o p q : B} {a d e f : E} (iha : Snd c g k a) (ihd : Snd c g k d) (ihe : Snd c g k e) (ihf : Snd c g k f) (lv : 1 ≤ c.lev) : HE c g k (.chn3 o p q a d e f) false ∧ HT c g k (.chn3 o p q a d e f) := by
  refine ⟨?_, ?_⟩ <;> intro W sc sw X x oo h <;> unfold chE at h <;> split at h <;> try cases h
  · simp only [Bool.and_eq_true, decide_eq_true_eq] at h
    obtain ⟨⟨⟨⟨⟨⟨⟨h1, h2⟩, h3⟩, h4⟩, h5⟩, h6⟩, h7⟩, h8⟩ := h
    exact pe_eq (pe_ch3 oo.hK (oo.hu lv) h1 h2 h3 h4 (iha.pe _ _ _ _ _ oo h5) (ihd.pe _ _ _ _ _ oo h6) (ihe.pe _ _ _ _ _ oo h7) (ihf.pe _ _ _ _ _ oo h8)) fun ρ => by simp only [ev]
  · simp only [Bool.and_eq_true, decide_eq_true_eq] at h
    obtain ⟨⟨⟨⟨⟨⟨⟨h1, h2⟩, h3⟩, h4⟩, h5⟩, h6⟩, h7⟩, h8⟩ := h
    exact pt_eq (pt_ch3 oo.hK (oo.hu lv) h1 h2 h3 h4 (iha.pe _ _ _ _ _ oo h5) (ihd.pe _ _ _ _ _ oo h6) (ihe.pe _ _ _ _ _ oo h7) (ihf.pe _ _ _ _ _ oo h8)) fun ρ => by simp only [ev]
theorem bor_asB {r : R Sl} : asB (r.bind fun s => match s with
    | .v d => if d.flat then .ok (.v d) else .st
    | _ => .st) = asB r := by
  rw [asB_bind]
  unfold asB
  refine congrArg _ (funext fun s => ?_)
  cases s with
  | v d => cases d <;> rfl
  | l d => rfl
  | k _ d => rfl
theorem pt_bor {X : Cx} {W : WX} {x : Expr} {fb : En → R Bool} (h : PT X x (tT k W fb)) : PT X x (tT k W fun ρ => fb (thaw ρ)) :=
  pt_imp h fun σ H Q ⟨S, ρ, st, q⟩ => ⟨_, _, st.lent, q⟩
theorem snd_bor {e : E} (ih : Snd c g k e) : HE c g k (.bor e) false ∧ HT c g k (.bor e) := by
  refine ⟨?_, ?_⟩ <;> intro W sc sw X x oo h <;> unfold chE at h
  · exact pe_eq (pe_bor (ih.pe _ _ _ _ _ oo h)) fun ρ => by first | (simp only [ev]; done) | (simp only [ev]; rfl)
  · refine pt_eq (pt_bor (ih.pt _ _ _ _ _ oo h)) fun ρ => ?_
    simp only [ev]
    exact bor_asB.symm
theorem snd_call {f : Nat} {es : E} (ih : Snd c g k es) (m : Bool) : HE c g k (.call f es) m := by
  intro W sc sw X x oo h
  unfold chE at h
  split at h <;> try cases h
  · simp only [Bool.and_eq_true, decide_eq_true_eq] at h
    obtain ⟨⟨⟨h1, h2⟩, h3⟩, h4⟩ := h
    obtain ⟨fa, fd, ps, F, hm, kp, hb, hl⟩ := oo.fn f _ h1
    obtain ⟨pa, ns, _⟩ := ih.pa _ _ _ _ _ oo h4
    exact pe_eq (pe_cl F oo.room (gl_of oo.hsc h2) hm kp hb oo.takes ns h3 hl pa) fun ρ => by simp only [ev]
  · simp only [Bool.and_eq_true, decide_eq_true_eq] at h
    obtain ⟨⟨⟨h1, h2⟩, h3⟩, h4⟩ := h
    obtain ⟨fa, fd, ps, F, hm, kp, hb, hl⟩ := oo.fn f _ h1
    have en : es = .nil := by cases es <;> first | rfl | (unfold chA at h4; cases h4)
    subst en
    exact pe_eq (pe_cl0 F oo.room (gl_of oo.hsc h2) hm kp hb oo.takes h3 hl) fun ρ => by simp only [ev, evs]; rfl

/-! ### comprehensions -/
theorem relS_wr {scope sc : Scope} {x : Str} (h : wrB scope x = true) : Loc (relS scope sc) x ∧ ((scope.names.lookup x == some .cell) = true ∨ (relS scope sc).names.lookup x = some .local) := by
  rcases loc_of h with e | e
  · have q := lookup_relS_keep (sc := sc) (by decide) e
    exact ⟨.inl q, .inr q⟩
  · have q := lookup_relS_keep (sc := sc) (by decide) e
    exact ⟨.inr q, .inl (by rw [e]; rfl)⟩
theorem Ok.blk {W : WX} {sc sw scope : Scope} {X : Cx} {own : List (Str × Nat)} (o : Ok c g k W sc sw X) (b : BlkOk X.N X.env.scope scope own) (s : Shared) (H : Hp) (C : Addr) (cl : List (Str × Addr)) (fp : List Addr) :
    Ok c g k wNo (relS scope sc) scope (X.blk s H scope (compEnvC scope cl C X.env) fp) := by
  have hs : (compEnvC scope cl C X.env).scope = relS scope sc := by rw [← o.hsc]; rfl
  exact { hK := o.hK, hN := o.hN, nd := o.nd, hsc := hs, kind := b.kind, calm := o.calm, gd := o.gd, room := o.room, takes := takes0, own := PassesOwn.never,
          wr := fun x h => by
            show Loc (compEnvC scope cl C X.env).scope x ∧ ((scope.names.lookup x == some .cell) = true ∨ (compEnvC scope cl C X.env).scope.names.lookup x = some .local)
            rw [hs]; exact relS_wr h
          bn := o.bn, fq := o.fq, fn := o.fn, glo := o.glo, ncl := o.ncl, htk := o.htk, prr := o.prr, prs := o.prs, sub := o.sub, exm := o.exm, cls := o.cls }
theorem pts_tt {X : Cx} {W : WX} : PTs X [] (tT k W fun ρ => asB (ev g (.lit (.bl true)) ρ)) :=
  ⟨fun pins s σ H Q I ⟨S, ρ, st, q⟩ => pts_nil.run pins s σ H Q I (show Q true H from q H (Same.refl H))⟩
structure CompOk (c : Cc) (g : Gs) (k : Kx) (W : WX) (X : Cx) (own : List (Str × Nat)) (t : Tg) (it cn e : E) (el tg iter : Expr) (ifs : List Expr) (scope : Scope) : Prop where
  blk : BlkOk X.N X.env.scope scope own
  sl : ∀ i ∈ t.slots, i ∈ own.map (·.2)
  tgt : ∀ (s : Shared) (H : Hp) (C : Addr) (cl : List (Str × Addr)) (fp : List Addr), PG (X.blk s H scope (compEnvC scope cl C X.env) fp) tg (gT k.K t)
  itr : PI X tg iter (tI k W (evi g it))
  fold : ∀ y, foldedSetIterable iter X.env y = pure y
  ifs : ∀ (s : Shared) (H : Hp) (C : Addr) (cl : List (Str × Addr)) (fp : List Addr), PTs (X.blk s H scope (compEnvC scope cl C X.env) fp) ifs (tT k wNo fun ρ => asB (ev g cn ρ))
  elt : ∀ (s : Shared) (H : Hp) (C : Addr) (cl : List (Str × Addr)) (fp : List Addr), PE (X.blk s H scope (compEnvC scope cl C X.env) fp) el (tE k wNo (ev g e))
theorem comp_ok {own : List (Str × Nat)} {t : Tg} {it cn e : E} (ihi : Snd c g k it) (ihc : Snd c g k cn) (ihe : Snd c g k e) {W : WX} {sc sw : Scope} {X : Cx} {x : Expr} {m : Bool} (oo : Ok c g k W sc sw X) (h : chE c (.comp own t it cn e) m sc x = true) :
    ∃ el tg iter ifs scope pos, x = .ListComp el [⟨tg, iter, ifs, 0⟩] scope pos ∧ CompOk c g k W X own t it cn e el tg iter ifs scope := by
  unfold chE at h
  split at h <;> try cases h
  rename_i el tg iter ifs scope pos
  simp only [Bool.and_eq_true, List.all_eq_true, decide_eq_true_eq] at h
  obtain ⟨⟨⟨⟨⟨h1, h2⟩, h3⟩, h4⟩, h5⟩, h6⟩ := h
  have b : BlkOk X.N X.env.scope scope own := by rw [oo.hN, oo.hsc]; exact blkOk_by h1
  obtain ⟨i1, i2⟩ := ihi.pi _ _ _ _ _ _ oo h4
  refine ⟨el, tg, iter, ifs, scope, pos, rfl, b, h2, fun s H C cl fp => ?_, i1, i2, fun s H C cl fp => ?_, fun s H C cl fp => ihe.pe _ _ _ _ _ (oo.blk b s H C cl fp) h6⟩
  · have o2 := oo.blk b s H C cl fp
    rw [← oo.hK]
    exact pg_T o2.hN o2.nd o2.calm o2.wr h3
  · split at h5
    · split at h5
      · exact pts_tt
      · cases h5
    · exact pts_one (ihc.pt _ _ _ _ _ (oo.blk b s H C cl fp) h5)
    · cases h5
theorem ev_comp {own : List (Str × Nat)} {t : Tg} {it cn e : E} (ρ : En) : compE (evi g it) t (fun ρ => asB (ev g cn ρ)) (ev g e) (own.map (·.2)) ρ = ev g (.comp own t it cn e) ρ := by simp only [ev, compE]
theorem snd_comp {own : List (Str × Nat)} {t : Tg} {it cn e : E} (ihi : Snd c g k it) (ihc : Snd c g k cn) (ihe : Snd c g k e) (m : Bool) : HE c g k (.comp own t it cn e) m := by
  intro W sc sw X x oo h
  obtain ⟨el, tg, iter, ifs, scope, pos, rfl, K⟩ := comp_ok ihi ihc ihe oo h
  exact pe_eq (pe_imp (pe_lc oo.calm (by rw [oo.hN]; exact oo.nd) K.itr K.blk K.tgt K.ifs K.elt K.fold) fun _ _ _ q => imp_comp K.sl q) ev_comp

theorem evs_len_cons {a es : E} {xs : List Expr} {sc : Scope} (ih : ∀ {ρ : En} {ds : List PD} {sc : Scope} {xs : List Expr}, chA c es sc xs = true → (evs g es ρ).Leaf ds → ds.length = xs.length) {ρ : En} {ds : List PD} (h : chA c (.cons a es) sc xs = true) (e : (evs g (.cons a es) ρ).Leaf ds) : ds.length = xs.length := by
  unfold chA at h
  split at h <;> try cases h
  simp only [Bool.and_eq_true] at h
  simp only [evs] at e
  obtain ⟨d, _, e⟩ := R.Leaf.of_bind e
  obtain ⟨ds', e2, e⟩ := R.Leaf.of_bind e
  have e : ds = d :: ds' := e
  rw [e]
  simp [ih h.2 e2]
theorem evs_len_nil {xs : List Expr} {sc : Scope} {ρ : En} {ds : List PD} (h : chA c .nil sc xs = true) (e : (evs g .nil ρ).Leaf ds) : ds.length = xs.length := by
  cases xs with
  | nil =>
    simp only [evs] at e
    have e : ds = [] := e
    rw [e]; rfl
  | cons _ _ => unfold chA at h; cases h
theorem evs_len (e : E) : ∀ {ρ : En} {ds : List PD} {sc : Scope} {xs : List Expr}, chA c e sc xs = true → (evs g e ρ).Leaf ds → ds.length = xs.length := by
  induction e with
  | nil => exact fun h e => evs_len_nil h e
  | cons a es _ ih => exact fun h e => evs_len_cons ih h e
  | _ => exact fun h => by unfold chA at h; cases h
theorem snd_rng {es : E} (ih : Snd c g k es) (W : WX) (sc sw : Scope) (X : Cx) (tg x : Expr) (oo : Ok c g k W sc sw X) (h : chI c (.rng es) sc tg x = true) : PI X tg x (tI k W (evi g (.rng es))) ∧ ∀ y, foldedSetIterable x X.env y = pure y := by
  unfold chI at h
  split at h <;> try cases h
  all_goals
    simp only [Bool.and_eq_true, decide_eq_true_eq] at h
    obtain ⟨⟨⟨rfl, h2⟩, h3⟩, h4⟩ := h
    obtain ⟨p, ns, hl⟩ := ih.pa _ _ _ _ _ oo h4
    simp only [List.all_cons, List.all_nil, Bool.and_true, Bool.and_eq_true] at ns
    refine ⟨pi_eq ?_ fun ρ => (show ((evs g es ρ).bind rngS) = evi g (.rng es) ρ by simp only [evi]), fun _ => rfl⟩
  · exact pi_rng1 (gl_of oo.hsc h3) (oo.bn _ h2) ns p hl
  · exact pi_rng2 (gl_of oo.hsc h3) (oo.bn _ h2) ns.1 ns.2 p hl
  · exact pi_rng3 (gl_of oo.hsc h3) (oo.bn _ h2) ns.1 ns.2.1 ns.2.2 p hl

theorem sound (lv : 1 ≤ c.lev) : ∀ e : E, Snd c g k e := by
  have fA : ∀ {b : Bool}, b = false → ¬ b = true := fun h => by rw [h]; exact Bool.false_ne_true
  intro e
  induction e with
  | var i =>
    refine Snd.val (fun m W sc sw X x oo h => ?_) (fun sc x h => ?_) (fun _ _ => by unfold chA; exact Bool.false_ne_true) (fun _ _ _ => by unfold chI; exact Bool.false_ne_true) (fun _ _ => by unfold chO; exact Bool.false_ne_true)
    · unfold chE at h
      split at h <;> try cases h
      simp only [Bool.and_eq_true, decide_eq_true_eq] at h
      exact pe_eq (pe_v oo.hN oo.hsc h.1.1 h.1.2 h.2) fun ρ => by first | (simp only [ev]; done) | (simp only [ev]; rfl)
    · unfold chE at h
      split at h <;> first | rfl | cases h
  | lit d =>
    refine Snd.val (fun m W sc sw X x oo h => ?_) (fun sc x h => ?_) (fun _ _ => by unfold chA; exact Bool.false_ne_true) (fun _ _ _ => by unfold chI; exact Bool.false_ne_true) (fun _ _ => by unfold chO; exact Bool.false_ne_true)
    · refine pe_eq (f := fun _ => .ok (.v d)) ?_ fun ρ => by simp only [ev]
      unfold chE at h
      split at h <;> try cases h
      split at h <;> simp only [decide_eq_true_eq, Bool.false_eq_true] at h
      · subst h; exact pe_ci
      · subst h; exact pe_cb
      · subst h; exact pe_cs
      · exact pe_cn
    · unfold chE at h
      split at h <;> first | rfl | cases h
  | glo j =>
    refine Snd.val (fun m W sc sw X x oo h => ?_) (fun sc x h => ?_) (fun _ _ => by unfold chA; exact Bool.false_ne_true) (fun _ _ _ => by unfold chI; exact Bool.false_ne_true) (fun _ _ => by unfold chO; exact Bool.false_ne_true)
    · unfold chE at h
      split at h <;> try cases h
      simp only [Bool.and_eq_true, decide_eq_true_eq] at h
      obtain ⟨v, u, e1, e2, e3⟩ := oo.glo j _ h.1.1
      exact pe_eq (pe_g (gl_of oo.hsc h.1.2) e1 e2 e3 h.2) fun ρ => by simp only [ev]
    · unfold chE at h
      split at h <;> first | rfl | cases h
  | u o a ih =>
    refine Snd.val (snd_u ih lv) (fun sc x h => ?_) (fun _ _ => by unfold chA; exact Bool.false_ne_true) (fun _ _ _ => by unfold chI; exact Bool.false_ne_true) (fun _ _ => by unfold chO; exact Bool.false_ne_true)
    unfold chE at h
    split at h
    · simp only [Bool.and_eq_true, decide_eq_true_eq] at h
      obtain ⟨⟨_, rfl⟩, _⟩ := h
      rfl
    · rfl
    · cases h
  | b o a d iha ihd => exact Snd.ex (snd_b iha ihd lv false) (sndT_b iha ihd lv) (fun _ _ => by unfold chA; exact Bool.false_ne_true) (fun _ _ _ => by unfold chI; exact Bool.false_ne_true) (fun _ _ => by unfold chO; exact Bool.false_ne_true)
  | isi mm ts a ih =>
    refine Snd.val (snd_isi ih) (fun sc x h => ?_) (fun _ _ => by unfold chA; exact Bool.false_ne_true) (fun _ _ _ => by unfold chI; exact Bool.false_ne_true) (fun _ _ => by unfold chO; exact Bool.false_ne_true)
    unfold chE at h
    split at h <;> first | rfl | cases h
  | slc a lo hi ih ihl ihh =>
    refine Snd.val (fun m W sc sw X x oo h => ?_) (fun sc x h => ?_) (fun _ _ => by unfold chA; exact Bool.false_ne_true) (fun _ _ _ => by unfold chI; exact Bool.false_ne_true) (fun _ _ => by unfold chO; exact Bool.false_ne_true)
    · unfold chE at h
      split at h <;> try cases h
      simp only [Bool.and_eq_true] at h
      exact pe_eq (pe_slc oo.hK (ih.pe _ _ _ _ _ oo h.1.1) (ihl.po _ _ _ _ _ oo h.1.2) (ihh.po _ _ _ _ _ oo h.2)) fun ρ => by simp only [ev]
    · unfold chE at h
      split at h <;> first | rfl | cases h
  | rev a ih =>
    refine Snd.val (fun m W sc sw X x oo h => ?_) (fun sc x h => ?_) (fun _ _ => by unfold chA; exact Bool.false_ne_true) (fun _ _ _ => by unfold chI; exact Bool.false_ne_true) (fun _ _ => by unfold chO; exact Bool.false_ne_true)
    · unfold chE at h
      split at h <;> try cases h
      exact pe_eq (pe_rev oo.hK (ih.pe _ _ _ _ _ oo h)) fun ρ => by first | (simp only [ev]; done) | (simp only [ev]; rfl)
    · unfold chE at h
      split at h <;> first | rfl | cases h
  | rep a d iha ihd =>
    refine Snd.val (fun m W sc sw X x oo h => ?_) (fun sc x h => ?_) (fun _ _ => by unfold chA; exact Bool.false_ne_true) (fun _ _ _ => by unfold chI; exact Bool.false_ne_true) (fun _ _ => by unfold chO; exact Bool.false_ne_true)
    · unfold chE at h
      split at h <;> try cases h
      simp only [Bool.and_eq_true] at h
      exact pe_eq (pe_rep (iha.pe _ _ _ _ _ oo h.1) (ihd.pe _ _ _ _ _ oo h.2)) fun ρ => by first | (simp only [ev]; done) | (simp only [ev]; rfl)
    · unfold chE at h
      split at h <;> first | rfl | cases h
  | and a d iha ihd => exact Snd.ex (snd_bool iha ihd).1 (snd_bool iha ihd).2.1 (fun _ _ => by unfold chA; exact Bool.false_ne_true) (fun _ _ _ => by unfold chI; exact Bool.false_ne_true) (fun _ _ => by unfold chO; exact Bool.false_ne_true)
  | or a d iha ihd => exact Snd.ex (snd_bool iha ihd).2.2.1 (snd_bool iha ihd).2.2.2 (fun _ _ => by unfold chA; exact Bool.false_ne_true) (fun _ _ _ => by unfold chI; exact Bool.false_ne_true) (fun _ _ => by unfold chO; exact Bool.false_ne_true)
  | not a ih => exact Snd.ex (snd_not ih).1 (snd_not ih).2 (fun _ _ => by unfold chA; exact Bool.false_ne_true) (fun _ _ _ => by unfold chI; exact Bool.false_ne_true) (fun _ _ => by unfold chO; exact Bool.false_ne_true)
  | ite t a d iht iha ihd =>
    refine Snd.ex (fun W sc sw X x oo h => ?_) (fun W sc sw X x oo h => ?_) (fun _ _ => by unfold chA; exact Bool.false_ne_true) (fun _ _ _ => by unfold chI; exact Bool.false_ne_true) (fun _ _ => by unfold chO; exact Bool.false_ne_true)
    · unfold chE at h
      split at h <;> try cases h
      simp only [Bool.and_eq_true] at h
      exact pe_eq (pe_it (iht.pt _ _ _ _ _ oo h.1.1.2) (iha.pe _ _ _ _ _ oo h.1.2) (ihd.pe _ _ _ _ _ oo h.2)) fun ρ => by simp only [ev]
    · unfold chE at h
      split at h <;> cases h
  | chn o p a d e iha ihd ihe => exact Snd.ex (snd_chn iha ihd ihe lv).1 (snd_chn iha ihd ihe lv).2 (fun _ _ => by unfold chA; exact Bool.false_ne_true) (fun _ _ _ => by unfold chI; exact Bool.false_ne_true) (fun _ _ => by unfold chO; exact Bool.false_ne_true)
  | chn3 o p q a d e f iha ihd ihe ihf => exact Snd.ex (snd_chn3 iha ihd ihe ihf lv).1 (snd_chn3 iha ihd ihe ihf lv).2 (fun _ _ => by unfold chA; exact Bool.false_ne_true) (fun _ _ _ => by unfold chI; exact Bool.false_ne_true) (fun _ _ => by unfold chO; exact Bool.false_ne_true)
  | mth o a e iha ihe =>
    refine Snd.val (fun m W sc sw X x oo h => ?_) (fun sc x h => ?_) (fun _ _ => by unfold chA; exact Bool.false_ne_true) (fun _ _ _ => by unfold chI; exact Bool.false_ne_true) (fun _ _ => by unfold chO; exact Bool.false_ne_true)
    · unfold chE at h
      split at h <;> try cases h
      simp only [Bool.and_eq_true, decide_eq_true_eq] at h
      obtain ⟨⟨⟨⟨⟨rfl, h2⟩, h3⟩, h4⟩, h5⟩, h6⟩ := h
      exact pe_eq (pe_mth oo.hK (oo.hu lv) h2 h4 h3 (iha.pe _ _ _ _ _ oo h5) (ihe.pe _ _ _ _ _ oo h6)) fun ρ => by first | (simp only [ev]; done) | (simp only [ev]; rfl)
    · unfold chE at h
      split at h <;> first | rfl | cases h
  | lrng a d iha ihd =>
    refine Snd.val (fun m W sc sw X x oo h => ?_) (fun sc x h => ?_) (fun _ _ => by unfold chA; exact Bool.false_ne_true) (fun _ _ _ => by unfold chI; exact Bool.false_ne_true) (fun _ _ => by unfold chO; exact Bool.false_ne_true)
    · unfold chE at h
      split at h <;> try cases h
      simp only [Bool.and_eq_true, decide_eq_true_eq] at h
      obtain ⟨⟨⟨⟨⟨⟨⟨⟨⟨rfl, h1⟩, h2⟩, rfl⟩, h4⟩, h5⟩, h6⟩, h7⟩, h8⟩, h9⟩ := h
      exact pe_eq (pe_lrng oo.hK oo.calm (gl_of oo.hsc h2) (oo.bn _ h1) (gl_of oo.hsc h5) (oo.bn _ h4) h6 h7 (iha.pe _ _ _ _ _ oo h8) (ihd.pe _ _ _ _ _ oo h9)) fun ρ => by first | (simp only [ev]; done) | (simp only [ev]; rfl)
    · unfold chE at h
      split at h <;> first | rfl | cases h
  | mkx j e ihe =>
    refine Snd.val (fun m W sc sw X x oo h => ?_) (fun sc x h => ?_) (fun _ _ => by unfold chA; exact Bool.false_ne_true) (fun _ _ _ => by unfold chI; exact Bool.false_ne_true) (fun _ _ => by unfold chO; exact Bool.false_ne_true)
    · unfold chE at h
      split at h <;> try cases h
      simp only [Bool.and_eq_true, decide_eq_true_eq] at h
      obtain ⟨⟨⟨⟨h1, h2⟩, h3⟩, h4⟩, h5⟩ := h
      obtain ⟨C, ec, eX, kin, exc, _, _, _, _⟩ := oo.cls j _ h1
      exact pe_eq (pe_mkx (nc := g.nc) ec exc eX kin (gl_of oo.hsc h2) (okN_dbg h3).1 h4 (ihe.pe _ _ _ _ _ oo h5)) fun ρ => by first | (simp only [ev]; done) | (simp only [ev]; rfl)
    · unfold chE at h
      split at h <;> first | rfl | cases h
  | tup es ih =>
    refine Snd.val (fun m W sc sw X x oo h => ?_) (fun sc x h => ?_) (fun _ _ => by unfold chA; exact Bool.false_ne_true) (fun _ _ _ => by unfold chI; exact Bool.false_ne_true) (fun _ _ => by unfold chO; exact Bool.false_ne_true)
    · unfold chE at h
      split at h <;> try cases h
      exact pe_eq (pe_tp (ih.pa _ _ _ _ _ oo h).1) fun ρ => by simp only [ev]
    · unfold chE at h
      split at h <;> first | rfl | cases h
  | pget i e ih =>
    refine Snd.val (fun m W sc sw X x oo h => ?_) (fun sc x h => ?_) (fun _ _ => by unfold chA; exact Bool.false_ne_true) (fun _ _ _ => by unfold chI; exact Bool.false_ne_true) (fun _ _ => by unfold chO; exact Bool.false_ne_true)
    · unfold chE at h
      split at h <;> try cases h
      simp only [Bool.and_eq_true, decide_eq_true_eq] at h
      obtain ⟨⟨⟨⟨h1, h2⟩, h3⟩, h4⟩, h5⟩ := h
      exact pe_eq (pe_pg oo.prr oo.hN oo.hsc h1 h2 h3 h4 (ih.pe _ _ _ _ _ oo h5)) fun ρ => by first | (simp only [ev]; done) | (simp only [ev]; rfl)
    · unfold chE at h
      split at h <;> first | rfl | cases h
  | oget i e ih =>
    refine Snd.val (fun m W sc sw X x oo h => ?_) (fun sc x h => ?_) (fun _ _ => by unfold chA; exact Bool.false_ne_true) (fun _ _ _ => by unfold chI; exact Bool.false_ne_true) (fun _ _ => by unfold chO; exact Bool.false_ne_true)
    · unfold chE at h
      split at h <;> try cases h
      simp only [Bool.and_eq_true, decide_eq_true_eq] at h
      obtain ⟨⟨⟨⟨h1, h2⟩, h3⟩, h4⟩, h5⟩ := h
      exact pe_eq (pe_oget oo.hK oo.hN oo.hsc h1 h2 h3 h4 (ih.pe _ _ _ _ _ oo h5)) fun ρ => by first | (simp only [ev]; done) | (simp only [ev]; rfl)
    · unfold chE at h
      split at h <;> first | rfl | cases h
  | kget i e ih =>
    refine Snd.val (fun m W sc sw X x oo h => ?_) (fun sc x h => ?_) (fun _ _ => by unfold chA; exact Bool.false_ne_true) (fun _ _ _ => by unfold chI; exact Bool.false_ne_true) (fun _ _ => by unfold chO; exact Bool.false_ne_true)
    · unfold chE at h
      split at h <;> try cases h
      simp only [Bool.and_eq_true, decide_eq_true_eq] at h
      obtain ⟨⟨⟨⟨h1, h2⟩, h3⟩, h4⟩, h5⟩ := h
      exact pe_eq (pe_kget (oo.hu lv) oo.hN oo.hsc oo.htk h1 h2 h3 h4 (ih.pe _ _ _ _ _ oo h5)) fun ρ => by first | (simp only [ev]; done) | (simp only [ev]; rfl)
    · unfold chE at h
      split at h <;> first | rfl | cases h
  | kgetd i e d ihe ihd =>
    refine Snd.val (fun m W sc sw X x oo h => ?_) (fun sc x h => ?_) (fun _ _ => by unfold chA; exact Bool.false_ne_true) (fun _ _ _ => by unfold chI; exact Bool.false_ne_true) (fun _ _ => by unfold chO; exact Bool.false_ne_true)
    · unfold chE at h
      split at h <;> try cases h
      simp only [Bool.and_eq_true, decide_eq_true_eq] at h
      obtain ⟨⟨⟨⟨⟨⟨⟨⟨rfl, h1⟩, h2⟩, h3⟩, h4⟩, h5⟩, h6⟩, h7⟩, h8⟩ := h
      exact pe_eq (pe_kgetd (oo.hu lv) oo.hN oo.hsc oo.htk h1 h2 h3 ⟨rfl, by rw [star_ns h5, star_ns h6]; rfl, h4, by rw [star_ns h5, star_ns h6]; rfl⟩ (ihe.pe _ _ _ _ _ oo h7) (ihd.pe _ _ _ _ _ oo h8)) fun ρ => by first | (simp only [ev]; done) | (simp only [ev]; rfl)
    · unfold chE at h
      split at h <;> first | rfl | cases h
  | klen i =>
    refine Snd.val (fun m W sc sw X x oo h => ?_) (fun sc x h => ?_) (fun _ _ => by unfold chA; exact Bool.false_ne_true) (fun _ _ _ => by unfold chI; exact Bool.false_ne_true) (fun _ _ => by unfold chO; exact Bool.false_ne_true)
    · unfold chE at h
      split at h <;> try cases h
      simp only [Bool.and_eq_true, decide_eq_true_eq] at h
      obtain ⟨⟨⟨⟨⟨rfl, h1⟩, h2⟩, h3⟩, h4⟩, h5⟩ := h
      exact pe_eq (pe_klen oo.hN oo.hsc h3 h4 h5 (gl_of oo.hsc h2) (oo.bn _ h1)) fun ρ => by first | (simp only [ev]; done) | (simp only [ev]; rfl)
    · unfold chE at h
      split at h <;> first | rfl | cases h
  | sortk i =>
    refine Snd.val (fun m W sc sw X x oo h => ?_) (fun sc x h => ?_) (fun _ _ => by unfold chA; exact Bool.false_ne_true) (fun _ _ _ => by unfold chI; exact Bool.false_ne_true) (fun _ _ => by unfold chO; exact Bool.false_ne_true)
    · unfold chE at h
      split at h <;> try cases h
      simp only [Bool.and_eq_true, decide_eq_true_eq] at h
      obtain ⟨⟨⟨⟨⟨rfl, h1⟩, h2⟩, h3⟩, h4⟩, h5⟩ := h
      exact pe_eq (pe_sortk oo.calm oo.hN oo.hsc h3 h4 h5 (gl_of oo.hsc h2) (oo.bn _ h1)) fun ρ => by first | (simp only [ev]; done) | (simp only [ev]; rfl)
    · unfold chE at h
      split at h <;> first | rfl | cases h
  | sset e ih =>
    refine Snd.val (fun m W sc sw X x oo h => ?_) (fun sc x h => ?_) (fun _ _ => by unfold chA; exact Bool.false_ne_true) (fun _ _ _ => by unfold chI; exact Bool.false_ne_true) (fun _ _ => by unfold chO; exact Bool.false_ne_true)
    · unfold chE at h
      split at h <;> try cases h
      simp only [Bool.and_eq_true, decide_eq_true_eq] at h
      obtain ⟨⟨⟨⟨⟨⟨⟨rfl, h1⟩, h2⟩, rfl⟩, h4⟩, h5⟩, h6⟩, h7⟩ := h
      exact pe_eq (pe_sset oo.hK oo.calm (oo.hu lv) (gl_of oo.hsc h2) (oo.bn _ h1) (gl_of oo.hsc h5) (oo.bn _ h4) h6 (ih.pe _ _ _ _ _ oo h7)) fun ρ => by first | (simp only [ev]; done) | (simp only [ev]; rfl)
    · unfold chE at h
      split at h <;> first | rfl | cases h
  | kin n i e ih =>
    have go : ∀ (W : WX) (sc sw : Scope) (X : Cx) (x : Expr) (m : Bool), Ok c g k W sc sw X → chE c (.kin n i e) m sc x = true → ∃ y nm p pos, x = .Compare y [if n = true then .NotIn else .In] [.Name nm p] pos ∧ PC X (if n = true then .NotIn else .In) y (.Name nm p) (tE k W (ev g (.kin n i e))) := fun W sc sw X x m oo h => by
      unfold chE at h
      split at h <;> try cases h
      rename_i y q nm p pos
      simp only [Bool.and_eq_true, decide_eq_true_eq] at h
      obtain ⟨⟨⟨⟨rfl, h2⟩, h3⟩, h4⟩, h5⟩ := h
      refine ⟨y, nm, p, pos, rfl, ?_⟩
      exact pc_eq (pe_kin (n := n) (pos := pos) (oo.hu lv) oo.hN oo.hsc oo.htk h2 h3 h4 (ih.pe _ _ _ _ _ oo h5)) fun ρ => by first | (simp only [ev]; done) | (simp only [ev]; rfl)
    refine Snd.ex (fun W sc sw X x oo h => ?_) (fun W sc sw X x oo h => ?_) (fun _ _ => by unfold chA; exact Bool.false_ne_true) (fun _ _ _ => by unfold chI; exact Bool.false_ne_true) (fun _ _ => by unfold chO; exact Bool.false_ne_true)
    · obtain ⟨y, nm, p, pos, rfl, pc⟩ := go W sc sw X x false oo h
      exact pe_cmp pc mk_name
    · obtain ⟨y, nm, p, pos, rfl, pc⟩ := go W sc sw X x true oo h
      exact pt_kin (f := fun _ => .st) pc
  | dct0 t =>
    refine Snd.val (fun m W sc sw X x oo h => ?_) (fun sc x h => ?_) (fun _ _ => by unfold chA; exact Bool.false_ne_true) (fun _ _ _ => by unfold chI; exact Bool.false_ne_true) (fun _ _ => by unfold chO; exact Bool.false_ne_true)
    · unfold chE at h
      split at h <;> try cases h
      exact pe_eq (pe_d0 (t := t)) fun ρ => by simp only [ev]
    · unfold chE at h
      split at h <;> first | rfl | cases h
  | dct1 a d iha ihd =>
    refine Snd.val (fun m W sc sw X x oo h => ?_) (fun sc x h => ?_) (fun _ _ => by unfold chA; exact Bool.false_ne_true) (fun _ _ _ => by unfold chI; exact Bool.false_ne_true) (fun _ _ => by unfold chO; exact Bool.false_ne_true)
    · unfold chE at h
      split at h <;> try cases h
      obtain ⟨h1, h2⟩ := and5 h
      exact pe_eq (pe_d1 (iha.pe _ _ _ _ _ oo h1) (ihd.pe _ _ _ _ _ oo h2)) fun ρ => by simp only [ev]
    · unfold chE at h
      split at h <;> first | rfl | cases h
  | lst es ih =>
    refine Snd.val (fun m W sc sw X x oo h => ?_) (fun sc x h => ?_) (fun _ _ => by unfold chA; exact Bool.false_ne_true) (fun _ _ _ => by unfold chI; exact Bool.false_ne_true) (fun _ _ => by unfold chO; exact Bool.false_ne_true)
    · unfold chE at h
      split at h <;> try cases h
      exact pe_eq (pe_ls (ih.pa _ _ _ _ _ oo h).1) fun ρ => by simp only [ev]
    · unfold chE at h
      split at h <;> first | rfl | cases h
  | nil =>
    refine ⟨fun _ sc _ _ x _ h => ?_, fun _ sc _ _ x _ h => ?_, fun W sc sw X x oo h => ?_, fun _ sc _ _ t x _ h => ?_, fun _ sc _ _ x _ h => ?_⟩
    · unfold chE at h; cases h
    · unfold chE at h; cases h
    · have hl := fun ρ ds => evs_len (g := g) (ρ := ρ) (ds := ds) _ h
      unfold chA at h
      split at h <;> try cases h
      exact ⟨pa_eq pa_n fun ρ => by simp only [evs], rfl, hl⟩
    · unfold chI at h; cases h
    · unfold chO at h; cases h
  | cons a es iha ihs =>
    refine ⟨fun _ sc _ _ x _ h => ?_, fun _ sc _ _ x _ h => ?_, fun W sc sw X x oo h => ?_, fun _ sc _ _ t x _ h => ?_, fun W sc sw X x oo h => ?_⟩
    · unfold chE at h; cases h
    · unfold chE at h; cases h
    · have hl := fun ρ ds => evs_len (g := g) (ρ := ρ) (ds := ds) _ h
      unfold chA at h
      split at h <;> try cases h
      simp only [Bool.and_eq_true] at h
      obtain ⟨p, ns, _⟩ := ihs.pa _ _ _ _ _ oo h.2
      exact ⟨pa_eq (pa_c h.1.1 (iha.pe _ _ _ _ _ oo h.1.2) p) fun ρ => by simp only [evs], by rw [List.all_cons, h.1.1, ns]; rfl, hl⟩
    · unfold chI at h; cases h
    · unfold chO at h
      split at h <;> try cases h
      simp only [Bool.and_eq_true] at h
      obtain ⟨h1, h2⟩ := h
      split at h2 <;> try cases h2
      exact po_eq (po_yes (iha.pe _ _ _ _ _ oo h1)) fun ρ => by simp only [evo]
  | call f es ih =>
    refine Snd.val (snd_call ih) (fun sc x h => ?_) (fun _ _ => by unfold chA; exact Bool.false_ne_true) (fun _ _ _ => by unfold chI; exact Bool.false_ne_true) (fun _ _ => by unfold chO; exact Bool.false_ne_true)
    unfold chE at h
    split at h <;> first | rfl | cases h
  | qcall f es ih =>
    exact ⟨fun _ sc _ _ x _ h => (by unfold chE at h; cases h), fun _ sc _ _ x _ h => (by unfold chE at h; cases h), fun W sc sw X x oo h => (by unfold chA at h; cases h), fun _ sc _ _ t x _ h => (by unfold chI at h; cases h), fun _ sc _ _ x _ h => (by unfold chO at h; cases h)⟩
  | comp own t it cn e ihi ihc ihe =>
    refine Snd.val (snd_comp ihi ihc ihe) (fun sc x h => ?_) (fun _ _ => by unfold chA; exact Bool.false_ne_true) (fun _ _ _ => by unfold chI; exact Bool.false_ne_true) (fun _ _ => by unfold chO; exact Bool.false_ne_true)
    unfold chE at h
    split at h <;> first | rfl | cases h
  | bor e ih => exact Snd.ex (snd_bor ih).1 (snd_bor ih).2 (fun _ _ => by unfold chA; exact Bool.false_ne_true) (fun _ _ _ => by unfold chI; exact Bool.false_ne_true) (fun _ _ => by unfold chO; exact Bool.false_ne_true)
  | seq e ih =>
    refine ⟨fun _ sc _ _ x _ h => ?_, fun _ sc _ _ x _ h => ?_, fun W sc sw X x oo h => ?_, fun _ sc _ _ t x oo h => ?_, fun _ sc _ _ x _ h => ?_⟩
    · unfold chE at h; cases h
    · unfold chE at h; cases h
    · unfold chA at h; cases h
    · unfold chI at h
      simp only [Bool.and_eq_true] at h
      exact ⟨pi_eq (pi_seq oo.hK (ih.pe _ _ _ _ _ oo h.2)) fun ρ => by simp only [evi], fold_ns h.1 _⟩
    · unfold chO at h; cases h
  | rng es ih =>
    refine ⟨fun _ sc _ _ x _ h => ?_, fun _ sc _ _ x _ h => ?_, fun W sc sw X x oo h => ?_, snd_rng ih, fun _ sc _ _ x _ h => ?_⟩
    · unfold chE at h; cases h
    · unfold chE at h; cases h
    · unfold chA at h; cases h
    · unfold chO at h; cases h
  | zip a d iha ihd =>
    refine ⟨fun _ sc _ _ x _ h => ?_, fun _ sc _ _ x _ h => ?_, fun W sc sw X x oo h => ?_, fun _ sc _ _ t x oo h => ?_, fun _ sc _ _ x _ h => ?_⟩
    · unfold chE at h; cases h
    · unfold chE at h; cases h
    · unfold chA at h; cases h
    · unfold chI at h
      split at h <;> try cases h
      split at h <;> try cases h
      simp only [Bool.and_eq_true, decide_eq_true_eq] at h
      obtain ⟨⟨⟨⟨⟨⟨rfl, h2⟩, h3⟩, h4⟩, h5⟩, h6⟩, h7⟩ := h
      exact ⟨pi_eq (pi_zp oo.hK (gl_of oo.hsc h3) (oo.bn _ h2) h4 h5 (iha.pe _ _ _ _ _ oo h6) (ihd.pe _ _ _ _ _ oo h7)) fun ρ => by simp only [evi], fun _ => rfl⟩
    · unfold chO at h; cases h
  | enum a ih =>
    refine ⟨fun _ sc _ _ x _ h => ?_, fun _ sc _ _ x _ h => ?_, fun W sc sw X x oo h => ?_, fun _ sc _ _ t x oo h => ?_, fun _ sc _ _ x _ h => ?_⟩
    · unfold chE at h; cases h
    · unfold chE at h; cases h
    · unfold chA at h; cases h
    · unfold chI at h
      split at h <;> try cases h
      split at h <;> try cases h
      simp only [Bool.and_eq_true, decide_eq_true_eq] at h
      obtain ⟨⟨⟨⟨rfl, h2⟩, h3⟩, h4⟩, h5⟩ := h
      exact ⟨pi_eq (pi_enm oo.hK (gl_of oo.hsc h3) (oo.bn _ h2) h4 (ih.pe _ _ _ _ _ oo h5)) fun ρ => by simp only [evi], fun _ => rfl⟩
    · unfold chO at h; cases h
  | no =>
    refine ⟨fun _ sc _ _ x _ h => ?_, fun _ sc _ _ x _ h => ?_, fun W sc sw X x oo h => ?_, fun _ sc _ _ t x _ h => ?_, fun _ sc _ _ x _ h => ?_⟩
    · unfold chE at h; cases h
    · unfold chE at h; cases h
    · unfold chA at h; cases h
    · unfold chI at h; cases h
    · unfold chO at h
      split at h <;> try cases h
      exact po_eq po_no fun ρ => by simp only [evo]
end
end FS

set_option maxRecDepth 100000
set_option autoImplicit false
set_option maxHeartbeats 4000000
/-! Statements: the steps of the state. -/
namespace FS
open PySem PySem.Spec L2

section
variable {k : Kx} {S : Sx} {ρ : En} {σ : St} {H H' : Hp}
/-- a new list or dict (or data) goes into a slot -/
theorem StOk.setR (st : StOk k S ρ σ H) {s : Sl} {v : V} (t : Same H H') (r : ResOk k (regP S ρ σ) H H' s v) (i : Nat) :
    StOk k S (ρ.set i (some s)) (σ.set i (some v)) H' ∧ Same (reg S ρ σ H) (reg S (ρ.set i (some s)) (σ.set i (some v)) H') := by
  by_cases hs : s.isOwn = true
  case neg =>
    have : ∃ d, s = .v d := by
      cases s with
      | v d => exact ⟨d, rfl⟩
      | l d => exact absurd rfl hs
      | k _ d => exact absurd rfl hs
    obtain ⟨d, rfl⟩ := this
    obtain ⟨s1, m1⟩ := (st.mono t).setV r i
    exact ⟨s1, Same.trans (part_mono t fun _ _ _ z => z) m1⟩
  have hv : ∃ a, v = .ref a ∧ H a = none ∧ (∃ u, H' a = some u) ∧ ∀ p : Addr → Prop, (∀ b, regP S ρ σ b → b ≠ a → p b) → SlotOk k (part p H') H' s v := by
    cases s with
    | v d => cases hs
    | l ds =>
      obtain ⟨a, vs, rfl, n, e, q⟩ := r
      exact ⟨a, rfl, n, ⟨_, e⟩, fun p hp => ⟨a, vs, rfl, e, Reps.mono (part_mono (Same.refl _) fun b _ _ z => hp b z.1 z.2) q⟩⟩
    | k ft kvs =>
      obtain ⟨a, rfl, n, q⟩ := r
      refine ⟨a, rfl, n, ?_, fun p hp => ⟨a, rfl, q.mono (part_mono (Same.refl _) fun b _ _ z => hp b z.1 z.2) (Same.refl _)⟩⟩
      rcases q with ⟨_, ks, q, _⟩ | ⟨_, ks, q, _⟩
      · exact ⟨_, q⟩
      · exact ⟨_, q⟩
  obtain ⟨a, rfl, n, hu, hslot⟩ := hv
  have keep : ∀ (j : Nat) (s' : Sl), (ρ.set i (some s))[j]? = some (some s') → (j = i ∧ s' = s ∧ i < ρ.length) ∨ (j ≠ i ∧ ρ[j]? = some (some s') ∧ (σ.set i (some (V.ref a)))[j]? = σ[j]?) := fun j s' e => by
    by_cases hj : i = j
    · subst hj
      by_cases hi : i < ρ.length
      · rw [List.getElem?_set_self hi] at e
        cases e
        exact .inl ⟨rfl, rfl, hi⟩
      · rw [List.getElem?_eq_none (by simpa using hi)] at e; cases e
    · rw [List.getElem?_set_ne hj] at e
      exact .inr ⟨Ne.symm hj, e, List.getElem?_set_ne hj⟩
  have ow : ∀ b, ownA (ρ.set i (some s)) (σ.set i (some (V.ref a))) b → ownA ρ σ b ∨ b = a := fun b ⟨j, s', e, o, z⟩ => by
    rcases keep j s' e with ⟨rfl, rfl, hi⟩ | ⟨_, e1, e2⟩
    · rw [List.getElem?_set_self (by rw [st.len]; exact hi)] at z
      cases z; exact .inr rfl
    · exact .inl ⟨j, s', e1, o, e2 ▸ z⟩
  have rg : ∀ b, regP S ρ σ b → b ≠ a → regP S (ρ.set i (some s)) (σ.set i (some (V.ref a))) b := fun b z hb => ⟨z.1, z.2.1, fun o => (ow b o).elim z.2.2 hb⟩
  have sm : Same (reg S ρ σ H) (reg S (ρ.set i (some s)) (σ.set i (some (V.ref a))) H') := part_mono t fun b o e z => rg b z (ne_of_none e n)
  refine ⟨⟨by simp [st.len], st.same.trans t, fun j s' e => ?_, fun b o => ?_, fun b z => ?_, fun j l s1 s2 b e1 o1 e2 o2 z1 z2 => ?_⟩, sm⟩
  · rcases keep j s' e with ⟨rfl, rfl, hi⟩ | ⟨hj, e1, e2⟩
    · exact ⟨.ref a, by rw [List.getElem?_set_self (by rw [st.len]; exact hi)], hslot _ rg⟩
    · obtain ⟨v, e3, q⟩ := st.slot j s' e1
      exact ⟨v, e2.trans e3, q.mono sm t⟩
  · rcases ow b o with o | rfl
    · exact st.new b o
    · exact st.same.free n
  · obtain ⟨u, e⟩ := st.hid b z
    exact ⟨u, t _ _ e⟩
  · have nota : ∀ (j : Nat) (s' : Sl), ρ[j]? = some (some s') → s'.isOwn = true → σ[j]? = some (some (V.ref a)) → False := fun j s' e o z => by
      obtain ⟨u, q⟩ := st.there ⟨j, s', e, o, z⟩
      rw [n] at q; cases q
    rcases keep j s1 e1 with ⟨rfl, rfl, hi⟩ | ⟨hj, f1, f2⟩
    · rw [List.getElem?_set_self (by rw [st.len]; exact hi)] at z1
      cases z1
      rcases keep l s2 e2 with ⟨rfl, _, _⟩ | ⟨hl, f3, f4⟩
      · rfl
      · exact (nota l s2 f3 o2 (f4 ▸ z2)).elim
    · rcases keep l s2 e2 with ⟨rfl, rfl, hi⟩ | ⟨hl, f3, f4⟩
      · rw [List.getElem?_set_self (by rw [st.len]; exact hi)] at z2
        cases z2
        exact (nota j s1 f1 o1 (f2 ▸ z1)).elim
      · exact st.inj j l s1 s2 b f1 o1 f3 o2 (f2 ▸ z1) (f4 ▸ z2)
/-- what a frame owns becomes data -/
theorem StOk.froze (st : StOk k S ρ σ H) (hh : ∀ a, ¬ S.hid a) {i : Nat} {s : Sl} (e : ρ[i]? = some (some s)) : StOk k S (ρ.set i (some s.thaw)) σ H ∧ Same (reg S ρ σ H) (reg S (ρ.set i (some s.thaw)) σ H) := by
  have hi : i < ρ.length := (List.getElem?_eq_some_iff.mp e).1
  have keep : ∀ (j : Nat) (s' : Sl), (ρ.set i (some s.thaw))[j]? = some (some s') → (j = i ∧ s' = s.thaw) ∨ (j ≠ i ∧ ρ[j]? = some (some s')) := fun j s' e => by
    by_cases hj : i = j
    · subst hj
      rw [List.getElem?_set_self hi] at e
      cases e
      exact .inl ⟨rfl, rfl⟩
    · rw [List.getElem?_set_ne hj] at e
      exact .inr ⟨Ne.symm hj, e⟩
  have ow : ∀ b, ownA (ρ.set i (some s.thaw)) σ b → ∃ (j : Nat) (s' : Sl), j ≠ i ∧ ρ[j]? = some (some s') ∧ s'.isOwn = true ∧ σ[j]? = some (some (V.ref b)) := fun b ⟨j, s', e, o, z⟩ => by
    rcases keep j s' e with ⟨rfl, rfl⟩ | ⟨hj, e1⟩
    · cases o
    · exact ⟨j, s', hj, e1, o, z⟩
  have sm : Same (reg S ρ σ H) (reg S (ρ.set i (some s.thaw)) σ H) := part_mono (Same.refl _) fun b _ _ z => ⟨z.1, z.2.1, fun o => by
    obtain ⟨j, s', _, e1, o1, z1⟩ := ow b o
    exact z.2.2 ⟨j, s', e1, o1, z1⟩⟩
  refine ⟨⟨by simp [st.len], st.same, fun j s' e' => ?_, fun b o => ?_, st.hid, fun j l s1 s2 b e1 o1 e2 o2 z1 z2 => ?_⟩, sm⟩
  · rcases keep j s' e' with ⟨rfl, rfl⟩ | ⟨hj, e1⟩
    · obtain ⟨v, e3, q⟩ := st.slot j s e
      refine ⟨v, e3, ?_⟩
      have own : ∀ a, s.isOwn = true → v = .ref a → regP S (ρ.set j (some s.thaw)) σ a := fun a o ev => by
        subst ev
        refine ⟨.inr (st.new a ⟨j, s, e, o, e3⟩), hh a, fun oo => ?_⟩
        obtain ⟨l, s', hl, e4, o4, z4⟩ := ow a oo
        exact hl (st.inj l j s' s a e4 o4 e o z4 e3)
      cases s with
      | v d => exact Rep.mono sm q
      | l ds =>
        obtain ⟨a, vs, rfl, e5, r⟩ := q
        exact Rep.lst (.inl (.inl ((part_eq (own a rfl rfl)).trans e5))) (Reps.mono sm r)
      | k ft kvs =>
        obtain ⟨a, rfl, q⟩ := q
        show Rep k _ (.dct kvs) (.ref a)
        simp only [Rep]
        refine ⟨a, rfl, ?_⟩
        rcases q with ⟨et, ks, q, r⟩ | ⟨et, ks, q, r⟩
        · exact .inl ⟨ks, .inl ((part_eq (own a rfl rfl)).trans q), RepK.mono sm r⟩
        · exact .inr ⟨ks, (part_eq (own a rfl rfl)).trans q, RepT.mono sm r⟩
    · obtain ⟨v, e3, q⟩ := st.slot j s' e1
      exact ⟨v, e3, q.mono sm (Same.refl _)⟩
  · obtain ⟨j, s', _, e1, o1, z1⟩ := ow b o
    exact st.new b ⟨j, s', e1, o1, z1⟩
  · rcases keep j s1 e1 with ⟨rfl, rfl⟩ | ⟨_, f1⟩
    · cases o1
    · rcases keep l s2 e2 with ⟨rfl, rfl⟩ | ⟨_, f2⟩
      · cases o2
      · exact st.inj j l s1 s2 b f1 o1 f2 o2 z1 z2
/-- an own list or dict is changed -/
theorem StOk.mut (st : StOk k S ρ σ H) {i : Nat} {s s' : Sl} {a : Addr} {o : HO} (e : ρ[i]? = some (some s)) (hs : s.isOwn = true) (hs' : s'.isOwn = true) (ea : σ[i]? = some (some (V.ref a)))
    (hr : SlotOk k (reg S ρ σ H) (upd H a o) s' (.ref a)) : StOk k S (ρ.set i (some s')) σ (upd H a o) ∧ Same (reg S ρ σ H) (reg S (ρ.set i (some s')) σ (upd H a o)) := by
  have hi : i < ρ.length := (List.getElem?_eq_some_iff.mp e).1
  have keep : ∀ (j : Nat) (t : Sl), (ρ.set i (some s'))[j]? = some (some t) → (j = i ∧ t = s') ∨ (j ≠ i ∧ ρ[j]? = some (some t)) := fun j t e => by
    by_cases hj : i = j
    · subst hj
      rw [List.getElem?_set_self hi] at e
      cases e
      exact .inl ⟨rfl, rfl⟩
    · rw [List.getElem?_set_ne hj] at e
      exact .inr ⟨Ne.symm hj, e⟩
  have oa : ownA ρ σ a := ⟨i, s, e, hs, ea⟩
  have ow : ∀ b, ownA (ρ.set i (some s')) σ b → ownA ρ σ b := fun b ⟨j, t, e', o', z⟩ => by
    rcases keep j t e' with ⟨rfl, rfl⟩ | ⟨hj, e1⟩
    · exact ⟨j, s, e, hs, z⟩
    · exact ⟨j, t, e1, o', z⟩
  have sm : Same (reg S ρ σ H) (reg S (ρ.set i (some s')) σ (upd H a o)) := fun b u q => by
    obtain ⟨z, q⟩ := part_some q
    have hb : b ≠ a := fun h => by
      rcases z with z | z
      · exact z.2.2 (h ▸ oa)
      · subst h
        obtain ⟨v, e1, sl⟩ := st.slot i s e
        rw [ea] at e1
        cases e1
        cases s with
        | v d => cases hs
        | l ds =>
          obtain ⟨c, vs, ec, q1, _⟩ := sl
          cases ec
          rw [q1] at q
          cases q
          exact z.elim
        | k ft kvs =>
          obtain ⟨c, ec, q1⟩ := sl
          cases ec
          rcases q1 with ⟨_, ks, q1, _⟩ | ⟨_, ks, q1, _⟩ <;>
          · rw [q1] at q
            cases q
            exact z.elim
    rcases z with z | z
    · exact (part_eq (show regP S (ρ.set i (some s')) σ b from ⟨z.1, z.2.1, fun o => z.2.2 (ow b o)⟩)).trans ((upd_ne hb).trans q)
    · cases u <;> first | exact z.elim | exact part_tup (by rw [upd_ne hb]; exact q)
  refine ⟨⟨by simp [st.len], fun b u q => ?_, fun j t e' => ?_, fun b o' => st.new b (ow b o'), fun b z => ?_, fun j l s1 s2 b e1 o1 e2 o2 z1 z2 => ?_⟩, sm⟩
  · have hb : b ≠ a := fun h => by
      have := st.new a oa
      rw [← h, q] at this; cases this
    rw [upd_ne hb]; exact st.same _ _ q
  · rcases keep j t e' with ⟨rfl, rfl⟩ | ⟨hj, e1⟩
    · exact ⟨_, ea, hr.mono sm (Same.refl _)⟩
    · obtain ⟨v, e3, q⟩ := st.slot j t e1
      refine ⟨v, e3, ?_⟩
      cases t with
      | v d => exact Rep.mono sm q
      | l ds =>
        obtain ⟨b, vs, rfl, e5, r⟩ := q
        have hb : b ≠ a := fun h => hj (st.inj j i _ s a e1 rfl e hs (h ▸ e3) ea)
        exact ⟨b, vs, rfl, by rw [upd_ne hb]; exact e5, Reps.mono sm r⟩
      | k ft kvs =>
        obtain ⟨b, rfl, q⟩ := q
        have hb : b ≠ a := fun h => hj (st.inj j i _ s a e1 rfl e hs (h ▸ e3) ea)
        refine ⟨b, rfl, ?_⟩
        rcases q with ⟨et, ks, q, r⟩ | ⟨et, ks, q, r⟩
        · exact .inl ⟨et, ks, by rw [upd_ne hb]; exact q, RepK.mono sm r⟩
        · exact .inr ⟨et, ks, by rw [upd_ne hb]; exact q, RepT.mono sm r⟩
  · obtain ⟨u, q⟩ := st.hid b z
    by_cases hb : b = a
    · exact ⟨o, by rw [hb]; exact upd_same⟩
    · exact ⟨u, by rw [upd_ne hb]; exact q⟩
  · have back : ∀ (j : Nat) (t : Sl), (ρ.set i (some s'))[j]? = some (some t) → t.isOwn = true → ∃ t', ρ[j]? = some (some t') ∧ t'.isOwn = true := fun j t e' o' => by
      rcases keep j t e' with ⟨rfl, rfl⟩ | ⟨_, f⟩
      · exact ⟨s, e, hs⟩
      · exact ⟨t, f, o'⟩
    obtain ⟨t1, f1, g1⟩ := back j s1 e1 o1
    obtain ⟨t2, f2, g2⟩ := back l s2 e2 o2
    exact st.inj j l t1 t2 b f1 g1 f2 g2 z1 z2
theorem ResOk.wider {p q : Addr → Prop} {s : Sl} {v : V} (h : ∀ a, p a → q a) (r : ResOk k p H H' s v) : ResOk k q H H' s v := by
  cases s with
  | v d => exact Rep.mono (part_mono (Same.refl _) fun a _ _ z => h a z) r
  | l ds =>
    obtain ⟨a, vs, e, n, e2, r⟩ := r
    exact ⟨a, vs, e, n, e2, Reps.mono (part_mono (Same.refl _) fun b _ _ z => ⟨h b z.1, z.2⟩) r⟩
  | k ft kvs =>
    obtain ⟨a, e, n, r⟩ := r
    exact ⟨a, e, n, r.mono (part_mono (Same.refl _) fun b _ _ z => ⟨h b z.1, z.2⟩) (Same.refl _)⟩
theorem StOk.ret (st : StOk k S ρ σ H) {s : Sl} {v : V} (r : ResOk k (regP S ρ σ) H H' s v) : RetOk k S H' s v := (r.wider fun _ z => z.1).back st.same
/-- a slot is handed back -/
theorem StOk.retm (st : StOk k S ρ σ H) {i : Nat} {s : Sl} (e : ρ[i]? = some (some s)) : ∃ v, σ[i]? = some (some v) ∧ RetOk k S H s v := by
  obtain ⟨v, e1, q⟩ := st.slot i s e
  refine ⟨v, e1, ?_⟩
  cases s with
  | v d => exact Rep.mono (part_mono (Same.refl _) fun _ _ _ z => z.1) q
  | l ds =>
    obtain ⟨a, vs, rfl, e2, r⟩ := q
    have o : ownA ρ σ a := ⟨i, _, e, rfl, e1⟩
    exact ⟨a, vs, rfl, st.new a o, e2, Reps.mono (part_mono (Same.refl _) fun b _ _ z => ⟨z.1, fun h => z.2.2 (h ▸ o)⟩) r⟩
  | k ft kvs =>
    obtain ⟨a, rfl, q⟩ := q
    have o : ownA ρ σ a := ⟨i, _, e, rfl, e1⟩
    exact ⟨a, rfl, st.new a o, q.mono (part_mono (Same.refl _) fun b _ _ z => ⟨z.1, fun h => z.2.2 (h ▸ o)⟩) (Same.refl _)⟩
end

/-! ### the statements' readings -/
def tSt (k : Kx) (W : WX) (f : En → Out) : TS := fun D σ H => ∃ S ρ, StOk k S ρ σ H ∧ (∀ a, ¬ S.hid a) ∧ tO k W S ρ D σ H (f ρ)
section
variable {k : Kx} {W : WX} {S : Sx} {ρ : En} {σ : St} {H : Hp} {D : Ends}
/-- what has grown on the way -/
theorem tO.shift {ρ1 : En} {σ1 : St} {H1 : Hp} (s : Same (reg S ρ σ H) (reg S ρ1 σ1 H1)) {o : Out} (h : tO k W S ρ D σ H o) : tO k W S ρ1 D σ1 H1 o := by
  induction o with
  | nx ρ' => exact fun σ' H' st m => h σ' H' st (s.trans m)
  | rt v ρ' => exact fun v σ' H1 H' st t m r => h v σ' H1 H' st t (s.trans m) r
  | bk ρ' => exact fun σ' H' st m => h σ' H' st (s.trans m)
  | ct ρ' => exact fun σ' H' st m => h σ' H' st (s.trans m)
  | ex c ρ' => exact fun σ' H' st m => h σ' H' st (s.trans m)
  | st => exact h.elim
  | ask m f ih => exact fun j h0 => ih j (h j h0)
theorem tO.grow {H1 : Hp} {o : Out} (t : Same H H1) (h : tO k W S ρ D σ H o) : tO k W S ρ D σ H1 o := tO.shift (part_mono t fun _ _ _ z => z) h
theorem tO.out {α : Type} {r : R α} {f : α → Out} (st : StOk k S ρ σ H) (h : tO k W S ρ D σ H (r.out ρ f)) : tR k W σ H r fun a => tO k W S ρ D σ H (f a) := by
  induction r with
  | ok a => exact h
  | ex c => exact fun H' t => h σ H' (st.mono t) (part_mono t fun _ _ _ z => z)
  | st => exact h
  | ask m r ih => exact fun j h0 => ih j (h j h0)
/-- behind a statement: each end's own way on -/
theorem tO.go {n c b : En → Out} {D' : Ends} {o : Out} (h : tO k W S ρ D σ H (o.go n c b))
    (hn : ∀ ρ' σ' H', StOk k S ρ' σ' H' → Same (reg S ρ σ H) (reg S ρ' σ' H') → tO k W S ρ' D σ' H' (n ρ') → D'.nx σ' H') (hr : ∀ v H', D.rt v H' → D'.rt v H')
    (hc : ∀ ρ' σ' H', StOk k S ρ' σ' H' → Same (reg S ρ σ H) (reg S ρ' σ' H') → tO k W S ρ' D σ' H' (c ρ') → D'.ct σ' H')
    (hb : ∀ ρ' σ' H', StOk k S ρ' σ' H' → Same (reg S ρ σ H) (reg S ρ' σ' H') → tO k W S ρ' D σ' H' (b ρ') → D'.bk σ' H') : tO k W S ρ D' σ H o := by
  induction o with
  | nx ρ' => exact fun σ' H' st m => hn ρ' σ' H' st m (tO.shift m h)
  | ct ρ' => exact fun σ' H' st m => hc ρ' σ' H' st m (tO.shift m h)
  | bk ρ' => exact fun σ' H' st m => hb ρ' σ' H' st m (tO.shift m h)
  | rt s ρ' => exact fun v σ' H1 H' st t m r => hr v H' (h v σ' H1 H' st t m r)
  | ex c ρ' => exact h
  | st => exact h.elim
  | ask m f ih => exact fun j h0 => ih j (h j h0)
end
end FS

set_option maxRecDepth 100000
set_option autoImplicit false
set_option maxHeartbeats 4000000
/-! Whether a text is what the small language has of it, and that it then does what that tells: statements. -/
namespace FS
open PySem PySem.Spec L2

/-- a list comprehension, its scope -/
def lcB : Expr → Option Scope
  | .ListComp _ _ s _ => some s
  | _ => none
/-- how x = e is stored: by its comprehension's own way, or plainly -/
def asgB (sc : Scope) (x : Str) (px : Pos) (e : Expr) : Bool := ncB e || (match lcB e with
  | some s => (match sc.names.lookup x with
    | some .local => px.line == e.pos.line && !(s.names.any fun (n, k) => n == x && (k == .local || k == .cell))
    | some .cell => true
    | _ => false)
  | none => false)
def E.isC : E → Bool
  | .comp .. => true
  | _ => false
def locB (sc : Scope) (x : Str) : Bool := match sc.names.lookup x with
  | some .local => true
  | _ => false
def ntB : Expr → Bool
  | .Tuple .. => false
  | _ => true
/-- not stored in swapped order -/
def nwB (ts : List Expr) (v : Expr) : Bool := ntB v || !(ts.length == 2 || ts.length == 3)
/-- a, b = x, y of two local names -/
def parB (sc : Scope) (x y : Str) (px py : Pos) (a b : Expr) : Bool := locB sc x && locB sc y && !(x == y) && px.line == py.line && nsB a && nsB b && !(foldedForSure 8 a && foldedForSure 8 b) && !(constantsAlone 8 a && constantsAlone 8 b)

/-- what an except suite may hold -/
def quE : E → Bool
  | .var _ => true
  | .lit _ => true
  | _ => false
def quA : E → Bool
  | .nil => true
  | .cons e es => quE e && quA es
  | _ => false
def chQe (c : Cc) (sc : Scope) : E → Expr → Bool
  | .qcall f es, x => match x with
    | .Call (.Name n _) (y :: ys) [] _ => decide (c.fns[f]? = some n) && decide (n ∈ c.fnq) && glB sc n && okN n && quA es && chA c es sc (y :: ys)
    | _ => false
  | e, x => quE e && chE c e false sc x
def chQs (c : Cc) (sc : Scope) : S → List Stmt → Bool
  | .nil, [] => true
  | .seq (.set i e) r, (.Assign [.Name n _] v _) :: ys => chQe c sc e v && decide (c.N[i]? = some n) && wrB sc n && ncB v && chQs c sc r ys
  | .seq (.ret e) r, (.Return (some v) _) :: ys => chQe c sc e v && chQs c sc r ys
  | _, _ => false
/-- a def that raises nothing -/
def quX : E → Bool
  | .var _ => true
  | .lit _ => true
  | .isi _ _ a => quX a
  | .and a d => quX a && quX d
  | .or a d => quX a && quX d
  | .not a => quX a
  | _ => false
def chB (c : Cc) (sc : Scope) : S → List Stmt → Bool
  | .nil, [] => true
  | .seq (.set i e) r, (.Assign [.Name n _] v _) :: ys => quX e && decide (c.N[i]? = some n) && wrB sc n && ncB v && chE c e false sc v && chB c sc r ys
  | .seq (.ret e) r, (.Return (some v) _) :: ys => quX e && chE c e false sc v && chB c sc r ys
  | .seq (.ifs e a d) r, (.If q us ds _) :: ys => quX e && chE c e true sc q && chB c sc a us && chB c sc d ds && chB c sc r ys
  | _, _ => false
mutual
def chS (c : Cc) (sc : Scope) : S → Stmt → Bool
  | .pass, x => match x with
    | .Pass _ => true
    | _ => false
  | .set i e, x => match x with
    | .Assign [.Name n px] v _ => decide (c.N[i]? = some n) && wrB sc n && asgB sc n px v && (ncB v || e.isC) && chE c e false sc v
    | _ => false
  | .own i e, x => match x with
    | .Assign [.Name n px] v _ => decide (c.N[i]? = some n) && wrB sc n && asgB sc n px v && (ncB v || e.isC) && chE c e false sc v
    | _ => false
  | .unp t e, x => match x with
    | .Assign [.Tuple ts kk p] v _ => chG c sc t (.Tuple ts kk p) && nwB ts v && chE c e false sc v
    | _ => false
  | .par i j a d, x => match x with
    | .Assign [.Tuple [.Name n pn, .Name m pm] _ _] (.Tuple [v, w] _ _) _ => decide (c.N[i]? = some n) && decide (c.N[j]? = some m) && parB sc n m pn pm v w && chE c a false sc v && chE c d false sc w
    | _ => false
  | .app i e, x => match x with
    | .Expr (.Call (.Attribute (.Name n _) m ap) [v] [] cp) _ => decide (c.N[i]? = some n) && visB sc n && okN n && decide (m = "append") && (ap.endLine == cp.line) && nsB v && chE c e false sc v
    | _ => false
  | .ext i e, x => match x with
    | .Expr (.Call (.Attribute (.Name n _) m ap) [v] [] cp) _ => decide (c.N[i]? = some n) && visB sc n && okN n && decide (m = "extend") && (ap.endLine == cp.line) && nsB v && chE c e false sc v
    | _ => false
  | .pop j i, x => match x with
    | .Assign [.Name y _] (.Call (.Attribute (.Name n _) m ap) [] [] cp) _ => decide (c.N[j]? = some y) && wrB sc y && decide (c.N[i]? = some n) && visB sc n && okN n && decide (m = "pop") && (ap.endLine == cp.line)
    | _ => false
  | .popd i, x => match x with
    | .Expr (.Call (.Attribute (.Name n _) m ap) [] [] cp) _ => decide (c.N[i]? = some n) && visB sc n && okN n && decide (m = "pop") && (ap.endLine == cp.line)
    | _ => false
  | .popa i ix, x => match x with
    | .Expr (.Call (.Attribute (.Name n _) m ap) [v] [] cp) _ => decide (c.N[i]? = some n) && visB sc n && okN n && decide (m = "pop") && (ap.endLine == cp.line) && nsB v && chE c ix false sc v
    | _ => false
  | .swp i ix iy e, x => match x with
    | .Assign [.Tuple [.Subscript (.Name n _) y _, .Subscript (.Name m _) z _] _ _] v _ => decide (c.N[i]? = some n) && decide (m = n) && visB sc n && okN n && plB y && plB z && chE c e false sc v && chE c ix false sc y && chE c iy false sc z
    | _ => false
  | .put i ix e, x => match x with
    | .Assign [.Subscript (.Name n _) y _] v _ => decide (c.N[i]? = some n) && visB sc n && okN n && ncB v && plB y && chE c e false sc v && chE c ix false sc y
    | _ => false
  | .kput i ix e, x => match x with
    | .Assign [.Subscript (.Name n _) y _] v _ => decide (c.N[i]? = some n) && visB sc n && okN n && ncB v && chE c e false sc v && chE c ix false sc y
    | _ => false
  | .ins i ix e, x => match x with
    | .Expr (.Call (.Attribute (.Name n _) m ap) [u, v] [] cp) _ => decide (c.N[i]? = some n) && visB sc n && okN n && decide (m = "insert") && (ap.endLine == cp.line) && nsB u && nsB v && chE c ix false sc u && chE c e false sc v
    | _ => false
  | .pput i ix e, x => match x with
    | .Assign [.Subscript (.Name n _) y _] v _ => decide (c.N[i]? = some n) && visB sc n && okN n && ncB v && plB y && chE c e false sc v && chE c ix false sc y
    | _ => false
  | .expr e, x => match x with
    | .Expr v _ => ncB v && chE c e false sc v
    | _ => false
  | .ret e, x => match x with
    | .Return (some v) _ => chE c e false sc v
    | _ => false
  | .retm i, x => match x with
    | .Return (some (.Name n _)) _ => decide (c.N[i]? = some n) && visB sc n && okN n
    | _ => false
  | .retn, x => match x with
    | .Return none _ => true
    | _ => false
  | .ifs t a d, x => match x with
    | .If q xs ys _ => chE c t true sc q && chSs c sc a xs && chSs c sc d ys
    | _ => false
  | .whl _ t b, x => match x with
    | .While q xs [] _ => chE c t true sc q && chSs c sc b xs
    | _ => false
  | .fr t it b, x => match x with
    | .For tg y xs [] _ => chG c sc t tg && chI c it sc tg y && chSs c sc b xs
    | _ => false
  | .brk, x => match x with
    | .Break _ => true
    | _ => false
  | .cnt, x => match x with
    | .Continue _ => true
    | _ => false
  | .raise j, x => match x with
    | .Raise (some (.Call (.Name n _) [.Constant (.str _) _ _] [] _)) none _ => decide (c.cls[j]? = some n) && glB sc n && okN n
    | _ => false
  | .tryc bd j i q, x => match x with
    | .Try xs [.ExceptHandler (some (.Name m _)) (some n) (y :: ys) _] [] [] _ => decide (c.cls[j]? = some m) && glB sc m && okN m && decide (c.N[i]? = some n) && locB sc n && chSs c sc bd xs && (chQs c sc q (y :: ys) || chB c sc q (y :: ys))
    | _ => false
  | .tryn bd j q, x => match x with
    | .Try xs [.ExceptHandler (some (.Name m _)) none (y :: ys) _] [] [] _ => decide (c.cls[j]? = some m) && glB sc m && okN m && chSs c sc bd xs && (chQs c sc q (y :: ys) || chB c sc q (y :: ys))
    | _ => false
  | _, _ => false
def chSs (c : Cc) (sc : Scope) : S → List Stmt → Bool
  | .nil, xs => match xs with
    | [] => true
    | _ => false
  | .seq a r, xs => (match a with
    | .frz _ => chSs c sc r xs
    | _ => false) || (match xs with
    | [] => false
    | y :: ys => chS c sc a y && chSs c sc r ys)
  | _, _ => false
end

/-! ### the rules -/
section
variable {c : Cc} {g : Gs} {k : Kx} {W : WX} {sc : Scope} {X : Cx} {f : En → R Sl}
theorem cv_local {x : Str} (h : locB sc x = true) : sc.names.lookup x = some .local := by
  unfold locB at h
  split at h
  · assumption
  · cases h
theorem swaps_cell {e : Expr} {s : Scope} {env : Env} {x : Str} {px : Pos} {l : Nat} (h : lcB e = some s) (hx : env.kindOf x = some .cell) : swapsWith e (some (.Name x px)) l env = pure false := by
  cases e <;> simp only [lcB, reduceCtorEq] at h
  unfold swapsWith
  simp only [hx]
  rw [show ((some NameKind.cell == some NameKind.local) = false) from by decide, Bool.and_false, Bool.false_and, Bool.false_and]
/-- x = e -/
theorem ps_as (o : Ok c g k W sc sc X) {i : Nat} {n : Str} {px pos : Pos} {v : Expr} {e : E} (lv : 1 ≤ c.lev) (h1 : c.N[i]? = some n) (h2 : wrB sc n = true) (h3 : asgB sc n px v = true) (h5 : (ncB v || e.isC) = true) (h4 : chE c e false sc v = true) :
    PS X (.Assign [.Name n px] v pos) (tAsg (tE k W (ev g e)) (gName i)) := by
  have p := (sound (g := g) (k := k) lv e).pe W sc sc X v o h4
  obtain ⟨w1, w2⟩ := o.wr n h2
  have nd : X.N.Nodup := by rw [o.hN]; exact o.nd
  have hi : X.N[i]? = some n := by rw [o.hN]; exact h1
  unfold asgB at h3
  rw [Bool.or_eq_true] at h3
  rcases h3 with h3 | h3
  · exact ps_set nd hi w1 p (swaps_nc h3 _ _ _) w2
  · split at h3 <;> try cases h3
    rename_i s es
    split at h3 <;> try cases h3
    · rename_i el
      simp only [Bool.and_eq_true, Bool.not_eq_true'] at h3
      have hloc : X.env.scope.names.lookup n = some .local := by rw [o.hsc]; exact el
      cases v <;> simp only [lcB, Option.some.injEq, reduceCtorEq] at es
      subst es
      have hc : e.isC = true := by simpa [ncB] using h5
      cases e <;> try cases hc
      rename_i own t it cn e
      obtain ⟨el', tg, iter, ifs, scope, pos', ex, K⟩ := comp_ok (sound lv it) (sound lv cn) (sound lv e) o h4
      cases ex
      refine ps_imp (ps_setLc o.calm nd hi hloc (sw_true (by rw [o.hsc]; exact o.kind) hloc h3.1 h3.2) K.itr K.blk K.tgt K.ifs K.elt K.fold) fun D σ H q => ?_
      have q' : tE k W (compE (evi g it) t (fun ρ => asB (ev g cn ρ)) (ev g e) (own.map (·.2))) σ H fun x H1 => gName i x σ H1 D.nx := by
        have : compE (evi g it) t (fun ρ => asB (ev g cn ρ)) (ev g e) (own.map (·.2)) = ev g (.comp own t it cn e) := funext ev_comp
        rw [this]; exact q
      exact imp_comp K.sl q'
    · rename_i el
      exact ps_set nd hi w1 p (swaps_cell es (show X.env.scope.names.lookup n = some .cell by rw [o.hsc]; exact el)) w2

/-- by a rule for each kind -/
structure SndS (c : Cc) (g : Gs) (k : Kx) (s : S) : Prop where
  ps : ∀ (W : WX) (sc : Scope) (X : Cx) (x : Stmt), OkT c g k W sc X → chS c sc s x = true → PS X x (tSt k W (run g s))
  pss : ∀ (W : WX) (sc : Scope) (X : Cx) (x : List Stmt), OkT c g k W sc X → chSs c sc s x = true → PSs X x (tSt k W (run g s))
theorem SndS.one {s : S} (h : ∀ (W : WX) (sc : Scope) (X : Cx) (x : Stmt), OkT c g k W sc X → chS c sc s x = true → PS X x (tSt k W (run g s))) (n : ∀ sc xs, ¬ chSs c sc s xs = true) : SndS c g k s :=
  ⟨h, fun _ sc _ x _ h => absurd h (n sc x)⟩
theorem ps_eq {x : Stmt} {f f' : En → Out} (p : PS X x (tSt k W f)) (h : ∀ ρ, f ρ = f' ρ) : PS X x (tSt k W f') := by
  have : f = f' := funext h
  rw [← this]; exact p
theorem pss_eq {x : List Stmt} {f f' : En → Out} (p : PSs X x (tSt k W f)) (h : ∀ ρ, f ρ = f' ρ) : PSs X x (tSt k W f') := by
  have : f = f' := funext h
  rw [← this]; exact p
theorem ss_set (lv : 1 ≤ c.lev) {i : Nat} {e : E} : SndS c g k (.set i e) := by
  refine SndS.one (fun W sc X x o h => ?_) fun _ _ => by unfold chSs; exact Bool.false_ne_true
  unfold chS at h
  split at h <;> try cases h
  simp only [Bool.and_eq_true, decide_eq_true_eq] at h
  obtain ⟨⟨⟨⟨h1, h2⟩, h3⟩, h5⟩, h4⟩ := h
  refine ps_imp (ps_as (g := g) (k := k) (W := W) o lv h1 h2 h3 h5 h4) fun D σ H ⟨S, ρ, st, hh, q⟩ => ?_
  simp only [run] at q
  refine tE.data st ((tO.out st q).mono (Same.refl _) fun d _ q v H' t r => ?_)
  obtain ⟨s1, m1⟩ := (st.mono t).setV r i
  exact q _ _ s1 (Same.trans (part_mono t fun _ _ _ z => z) m1)
theorem ss_own (lv : 1 ≤ c.lev) {i : Nat} {e : E} : SndS c g k (.own i e) := by
  refine SndS.one (fun W sc X x o h => ?_) fun _ _ => by unfold chSs; exact Bool.false_ne_true
  unfold chS at h
  split at h <;> try cases h
  simp only [Bool.and_eq_true, decide_eq_true_eq] at h
  obtain ⟨⟨⟨⟨h1, h2⟩, h3⟩, h5⟩, h4⟩ := h
  refine ps_imp (ps_as (g := g) (k := k) (W := W) o lv h1 h2 h3 h5 h4) fun D σ H ⟨S, ρ, st, hh, q⟩ => ?_
  simp only [run] at q
  refine ⟨S, ρ, st, (tO.out st q).mono (Same.refl _) fun s _ q v H' t r => ?_⟩
  obtain ⟨s1, m1⟩ := st.setR t r i
  exact q _ _ s1 m1
theorem sole_nc {e t : Expr} {l : Nat} {env : Env} (h : ncB e = true) : swapsWithSole [t] e l env = pure false := swaps_nc h (some t) l env
theorem sw_none {ts : List Expr} {v : Expr} {kk : Nat} {p : Pos} {env : Env} (h : nwB ts v = true) : swappedStores [.Tuple ts kk p] v env = pure none := by
  unfold nwB at h
  cases v <;> first | rfl | (simp only [ntB, Bool.false_or] at h; unfold swappedStores; simp only [h, Bool.true_or, if_true])
theorem sole_tup {ts : List Expr} {v : Expr} {kk l : Nat} {p : Pos} {env : Env} : swapsWithSole [.Tuple ts kk p] v l env = pure false := by
  cases v <;> rfl
theorem ss_unp (lv : 1 ≤ c.lev) {t : Tg} {e : E} : SndS c g k (.unp t e) := by
  refine SndS.one (fun W sc X x o h => ?_) fun _ _ => by unfold chSs; exact Bool.false_ne_true
  unfold chS at h
  split at h <;> try cases h
  simp only [Bool.and_eq_true] at h
  obtain ⟨⟨h1, h3⟩, h4⟩ := h
  have p := (sound (g := g) (k := k) lv e).pe W sc sc X _ o h4
  refine ps_imp (ps_asg p (pg_T o.hN o.nd o.calm o.wr h1) sole_tup (sw_none h3)) fun D σ H ⟨S, ρ, st, hh, q⟩ => ?_
  simp only [run] at q
  refine tE.data st ((tO.out st q).mono (Same.refl _) fun d _ q v H' t' r => ?_)
  rw [o.hK]
  have st' := st.mono t'
  have m0 : Same (reg S ρ σ H) (reg S ρ σ H') := part_mono t' fun _ _ _ z => z
  obtain ⟨ρ', eb, q⟩ := (tO.out st q).bound
  exact imp_T st' r eb fun σ' ⟨s1, m1, _⟩ => q σ' H' s1 (m0.trans m1)

theorem star_var {a : Expr} (h : nsB a = true) : (match a with
    | .Starred .. => true
    | _ => false) = false := by
  cases a <;> first | rfl | cases h
theorem sw_par {n m : Str} {pn pm pt p2 : Pos} {k1 k2 : Nat} {a b : Expr} (hS : X.env.scope = sc) (hk : sc.kind = .function) (h : parB sc n m pn pm a b = true) :
    swappedStores [.Tuple [.Name n pn, .Name m pm] k1 pt] (.Tuple [a, b] k2 p2) X.env = pure (some [n, m]) := by
  unfold parB at h
  simp only [Bool.and_eq_true, Bool.not_eq_true'] at h
  obtain ⟨⟨⟨⟨⟨⟨⟨h1, h2⟩, h3⟩, h4⟩, h5⟩, h6⟩, h7⟩, h8⟩ := h
  have e1 : X.env.kindOf n = some .local := by show X.env.scope.names.lookup n = _; rw [hS]; exact cv_local h1
  have e2 : X.env.kindOf m = some .local := by show X.env.scope.names.lookup m = _; rw [hS]; exact cv_local h2
  have hb : X.env.blockKind = .function := by unfold Env.blockKind; rw [hS, hk]; rfl
  have s1 := star_var h5
  have s2 := star_var h6
  have q1 : pm.line = pn.line := (beq_iff_eq.mp h4).symm
  unfold swappedStores
  have hne : ¬ n = m := fun z => by rw [z] at h3; simp at h3
  simp only [hb, e1, e2, Expr.pos, q1, h7, h8]
  have d2 : ([n, m] : List Str).eraseDups.length = 2 := by
    have hmn : (m == n) = false := by rw [beq_eq_false_iff_ne]; exact fun z => hne z.symm
    simp [List.eraseDups_cons, hmn]
  simp [hb, e1, e2, q1, h7, h8, d2, s1, s2]
  intro h
  rcases h with h | h
  · cases a <;> first | (exact absurd h Bool.false_ne_true) | (exact absurd h5 Bool.false_ne_true)
  · cases b <;> first | (exact absurd h Bool.false_ne_true) | (exact absurd h6 Bool.false_ne_true)
theorem ss_par (lv : 1 ≤ c.lev) {i j : Nat} {a d : E} : SndS c g k (.par i j a d) := by
  refine SndS.one (fun W sc X x o h => ?_) fun _ _ => by unfold chSs; exact Bool.false_ne_true
  unfold chS at h
  split at h <;> try cases h
  simp only [Bool.and_eq_true, decide_eq_true_eq] at h
  obtain ⟨⟨⟨⟨h1, h2⟩, h3⟩, h4⟩, h5⟩ := h
  have h3' := h3
  unfold parB at h3'
  simp only [Bool.and_eq_true, Bool.not_eq_true'] at h3'
  obtain ⟨⟨⟨⟨⟨⟨⟨l1, l2⟩, l3⟩, l4⟩, l5⟩, l6⟩, l7⟩, l8⟩ := h3'
  have p := pa_c l5 ((sound (g := g) (k := k) lv a).pe W sc sc X _ o h4) (pa_c l6 ((sound (g := g) (k := k) lv d).pe W sc sc X _ o h5) pa_n)
  have hij : i ≠ j := fun z => by
    rw [z, h2] at h1
    cases h1
    simp at l3
  refine ps_imp (ps_par o.calm (by rw [o.hN]; exact o.nd) (by rw [o.hN]; exact h1) (by rw [o.hN]; exact h2) hij (by rw [o.hsc]; exact cv_local l1) (by rw [o.hsc]; exact cv_local l2) p (sw_par o.hsc o.kind h3)) fun D σ H ⟨S, ρ, st, hh, q⟩ => ?_
  simp only [run] at q
  refine ⟨S, ρ, st, ?_⟩
  refine tR.mk ((tO.out st q).mono (Same.refl _) fun x _ q => tR.mk (tR.mk ((tO.out st q).mono (Same.refl _) fun y _ q => ?_)))
  intro vs H' t r
  obtain ⟨v, w, rfl, r1, r2⟩ := reps2 r
  refine ⟨v, w, rfl, ?_⟩
  obtain ⟨s1, m1⟩ := (st.mono t).setV r1 i
  obtain ⟨s2, m2⟩ := s1.setV (Rep.mono m1 r2) j
  exact q _ _ s2 ((Same.trans (part_mono t fun _ _ _ z => z) m1).trans m2)
/-! #### methods of own lists -/
theorem few1 {v : Expr} {cp : Pos} {env : Env} (h : nsB v = true) : ((backTo cp (starEach [v] env)).all (fun x => !x.1) && (backToKw cp (keywordEach [] env)).all (fun x => x.1.isSome)
      && decide (([v] : List Expr).length + ([] : List Keyword).length + (if ([] : List Keyword).isEmpty then 0 else 1) < 30)) = true := by
  rw [star_ns h]; rfl
theorem slot_l {S : Sx} {ρ : En} {σ : St} {H : Hp} (st : StOk k S ρ σ H) {i : Nat} {ds : List PD} (e : ρ[i]? = some (some (.l ds))) : ∃ a vs, σ[i]? = some (some (V.ref a)) ∧ H a = some (.lst vs) ∧ Reps k (reg S ρ σ H) ds vs := by
  obtain ⟨v, e1, a, vs, rfl, q, r⟩ := st.slot i _ e
  exact ⟨a, vs, e1, q, r⟩
theorem pv_i {N : List Str} {i : Nat} {x : Str} {pos : Pos} (eN : X.N = N) (eS : X.env.scope = sc) (h1 : N[i]? = some x) (h2 : visB sc x = true) (h3 : okN x = true) : PE X (.Name x pos) (tVar i) :=
  pe_var (by rw [eN]; exact h1) (by rw [eS]; exact vis_of h2) (okN_dbg h3).1 (okN_dbg h3).2.1

theorem get_l {ρ : En} {i : Nat} {F : List PD → Out} {D : Ends} {σ : St} {H : Hp} {S : Sx} {ρ' : En} (h : tO k W S ρ' D σ H (match ρ[i]? with
    | some (some (.l ds)) => F ds
    | _ => .st)) : ∃ ds, ρ[i]? = some (some (.l ds)) ∧ tO k W S ρ' D σ H (F ds) := by
  cases e : ρ[i]? with
  | none => rw [e] at h; exact h.elim
  | some o =>
    cases o with
    | none => rw [e] at h; exact h.elim
    | some s =>
      cases s with
      | v d => rw [e] at h; exact h.elim
      | k _ d => rw [e] at h; exact h.elim
      | l ds => rw [e] at h; exact ⟨ds, rfl, h⟩
/-- the own list in slot i is another one -/
theorem StOk.lput {S : Sx} {ρ : En} {σ : St} {H : Hp} (st : StOk k S ρ σ H) {i : Nat} {ds es : List PD} {a : Addr} {ws : List V} (e : ρ[i]? = some (some (.l ds))) (ea : σ[i]? = some (some (V.ref a))) (r : Reps k (reg S ρ σ H) es ws) :
    StOk k S (ρ.set i (some (.l es))) σ (upd H a (.lst ws)) ∧ Same (reg S ρ σ H) (reg S (ρ.set i (some (.l es))) σ (upd H a (.lst ws))) :=
  st.mut (s' := .l es) (o := .lst ws) e rfl rfl ea ⟨a, ws, rfl, upd_same, r⟩
theorem reps_set {G : Hp} : ∀ {ds : List PD} {vs : List V} {j : Nat} {d : PD} {v : V}, Reps k G ds vs → Rep k G d v → Reps k G (ds.set j d) (vs.set j v)
  | [], vs, j, d, v, h, r => by rw [Reps.nil_iff.mp h]; simpa using Reps.nil
  | x :: ds, vs, j, d, v, h, r => by
    obtain ⟨w, ws, rfl, q, t⟩ := Reps.cons_iff.mp h
    cases j with
    | zero => exact Reps.cons r t
    | succ j => exact Reps.cons q (reps_set t r)
theorem reps_dropLast {G : Hp} : ∀ {ds : List PD} {vs : List V}, Reps k G ds vs → Reps k G ds.dropLast vs.dropLast
  | [], vs, h => by rw [Reps.nil_iff.mp h]; exact Reps.nil
  | [x], vs, h => by
    obtain ⟨w, ws, rfl, q, t⟩ := Reps.cons_iff.mp h
    rw [Reps.nil_iff.mp t]; exact Reps.nil
  | x :: y :: ds, vs, h => by
    obtain ⟨w, ws, rfl, q, t⟩ := Reps.cons_iff.mp h
    obtain ⟨w', ws', rfl, q', t'⟩ := Reps.cons_iff.mp t
    exact Reps.cons q (reps_dropLast t)
theorem ss_app (lv : 1 ≤ c.lev) {i : Nat} {e : E} : SndS c g k (.app i e) := by
  refine SndS.one (fun W sc X x o h => ?_) fun _ _ => by unfold chSs; exact Bool.false_ne_true
  unfold chS at h
  split at h <;> try cases h
  simp only [Bool.and_eq_true, decide_eq_true_eq] at h
  obtain ⟨⟨⟨⟨⟨⟨h1, h2⟩, h3⟩, rfl⟩, h5⟩, h6⟩, h7⟩ := h
  have p := (sound (g := g) (k := k) lv e).pe W sc sc X _ o h7
  refine ps_imp (ps_expr (pe_bm PySem.F.plainAttrs_list PySem.F.slot_list_append PySem.F.type_list_append mt_append (pv_i o.hN o.hsc h1 h2 h3) (pa_cons p pa_nil (star_ns h6 _ _)) rfl (few1 h6) h5 (star_ns h6 _ _) rfl)) fun D σ H ⟨S, ρ, st, hh, q⟩ => ?_
  simp only [run] at q
  obtain ⟨ds, es, q⟩ := get_l q
  have q := tO.out st q
  obtain ⟨a, vs, ea, hA, ra⟩ := slot_l st es
  refine ⟨.ref a, ea, .inl ⟨rfl, vs, .inl (.inl hA)⟩, tE.data st (q.mono (Same.refl _) fun d _ q v H' t r => ?_)⟩
  by_cases hz : ds.length < sizeLine
  · rw [if_pos hz] at q
    refine ⟨a, vs, v, rfl, rfl, t _ _ hA, by rw [ra.length]; exact hz, ?_⟩
    have st' := st.mono t
    have m0 : Same (reg S ρ σ H) (reg S ρ σ H') := part_mono t fun _ _ _ z => z
    obtain ⟨s1, m1⟩ := st'.lput es ea (Reps.append (Reps.mono m0 ra) (Reps.cons r Reps.nil))
    exact q _ _ s1 (m0.trans m1)
  · rw [if_neg hz] at q; exact q.elim
theorem ss_ext (lv : 1 ≤ c.lev) {i : Nat} {e : E} : SndS c g k (.ext i e) := by
  refine SndS.one (fun W sc X x o h => ?_) fun _ _ => by unfold chSs; exact Bool.false_ne_true
  unfold chS at h
  split at h <;> try cases h
  simp only [Bool.and_eq_true, decide_eq_true_eq] at h
  obtain ⟨⟨⟨⟨⟨⟨h1, h2⟩, h3⟩, rfl⟩, h5⟩, h6⟩, h7⟩ := h
  have p := (sound (g := g) (k := k) lv e).pe W sc sc X _ o h7
  refine ps_imp (ps_expr (pe_bm PySem.F.plainAttrs_list PySem.F.slot_list_extend PySem.F.type_list_extend mt_extend (pv_i o.hN o.hsc h1 h2 h3) (pa_cons p pa_nil (star_ns h6 _ _)) rfl (few1 h6) h5 (star_ns h6 _ _) rfl)) fun D σ H ⟨S, ρ, st, hh, q⟩ => ?_
  simp only [run] at q
  obtain ⟨ds, es, q⟩ := get_l q
  have q := tO.out st q
  obtain ⟨a, vs, ea, hA, ra⟩ := slot_l st es
  refine ⟨.ref a, ea, .inl ⟨rfl, vs, .inl (.inl hA)⟩, S, ρ, st, q.mono (Same.refl _) fun s _ q v H' t r => ?_⟩
  cases s with
  | v d => exact q.elim
  | k _ d => exact q.elim
  | l xs =>
    dsimp only at q
    obtain ⟨b, ws, rfl, nb, hb, rb⟩ := r
    by_cases hz : ds.length + xs.length ≤ sizeLine
    · rw [if_pos hz] at q
      refine ⟨a, b, vs, ws, rfl, rfl, t _ _ hA, hb, by rw [ra.length, rb.length]; exact hz, ?_⟩
      have st' := st.mono t
      have m0 : Same (reg S ρ σ H) (reg S ρ σ H') := part_mono t fun _ _ _ z => z
      obtain ⟨s1, m1⟩ := st'.lput es ea (Reps.append (Reps.mono m0 ra) (Reps.mono (part_mono (Same.refl _) fun _ _ _ z => z.1) rb))
      exact q _ _ s1 (m0.trans m1)
    · rw [if_neg hz] at q; exact q.elim
theorem last_get {ds : List PD} {d : PD} (h : ds.getLast? = some d) : ds[ds.length - 1]? = some d := by rw [← h, List.getLast?_eq_getElem?]
theorem ss_popd (lv : 1 ≤ c.lev) {i : Nat} : SndS c g k (.popd i) := by
  refine SndS.one (fun W sc X x o h => ?_) fun _ _ => by unfold chSs; exact Bool.false_ne_true
  unfold chS at h
  split at h <;> try cases h
  simp only [Bool.and_eq_true, decide_eq_true_eq] at h
  obtain ⟨⟨⟨⟨h1, h2⟩, h3⟩, rfl⟩, h5⟩ := h
  refine ps_imp (ps_expr (pe_bm0 PySem.F.plainAttrs_list PySem.F.slot_list_pop PySem.F.type_list_pop mt_pop (pv_i o.hN o.hsc h1 h2 h3) rfl h5)) fun D σ H ⟨S, ρ, st, hh, q⟩ => ?_
  simp only [run] at q
  obtain ⟨ds, es, q⟩ := get_l q
  obtain ⟨a, vs, ea, hA, ra⟩ := slot_l st es
  refine ⟨.ref a, ea, .inl ⟨rfl, vs, .inl (.inl hA)⟩, ?_⟩
  cases e1 : ds.getLast? with
  | none => rw [e1] at q; exact q.elim
  | some d =>
    rw [e1] at q
    obtain ⟨y, ey, ry⟩ := ra.get (last_get e1)
    refine ⟨a, vs, y, rfl, rfl, hA, by rw [ra.length]; exact ey, ?_⟩
    obtain ⟨s1, m1⟩ := st.lput es ea (reps_dropLast ra)
    exact q _ _ s1 m1
theorem ss_pop (lv : 1 ≤ c.lev) {i j : Nat} : SndS c g k (.pop j i) := by
  refine SndS.one (fun W sc X x o h => ?_) fun _ _ => by unfold chSs; exact Bool.false_ne_true
  unfold chS at h
  split at h <;> try cases h
  simp only [Bool.and_eq_true, decide_eq_true_eq] at h
  obtain ⟨⟨⟨⟨⟨⟨h0, hw⟩, h1⟩, h2⟩, h3⟩, rfl⟩, h5⟩ := h
  obtain ⟨w1, w2⟩ := o.wr _ hw
  refine ps_imp (ps_set (by rw [o.hN]; exact o.nd) (by rw [o.hN]; exact h0) w1 (pe_bm0 PySem.F.plainAttrs_list PySem.F.slot_list_pop PySem.F.type_list_pop mt_pop (pv_i o.hN o.hsc h1 h2 h3) rfl h5) rfl w2) fun D σ H ⟨S, ρ, st, hh, q⟩ => ?_
  simp only [run] at q
  obtain ⟨ds, es, q⟩ := get_l q
  obtain ⟨a, vs, ea, hA, ra⟩ := slot_l st es
  refine ⟨.ref a, ea, .inl ⟨rfl, vs, .inl (.inl hA)⟩, ?_⟩
  cases e1 : ds.getLast? with
  | none => rw [e1] at q; exact q.elim
  | some d =>
    rw [e1] at q
    dsimp only at q
    by_cases hij : i = j
    · rw [if_pos hij] at q; exact q.elim
    rw [if_neg hij] at q
    obtain ⟨y, ey, ry⟩ := ra.get (last_get e1)
    refine ⟨a, vs, y, rfl, rfl, hA, by rw [ra.length]; exact ey, ?_⟩
    obtain ⟨s1, m1⟩ := st.lput es ea (reps_dropLast ra)
    obtain ⟨s2, m2⟩ := s1.setV (Rep.mono m1 ry) j
    exact q _ _ s2 (m1.trans m2)
theorem reps_erase {k : Kx} {G : Hp} : ∀ {ds : List PD} {vs : List V} (j : Nat), Reps k G ds vs → Reps k G (ds.eraseIdx j) (vs.eraseIdx j)
  | [], vs, j, h => by
    have := Reps.nil_iff.mp h
    subst this
    simpa using h
  | d :: ds, vs, 0, h => by
    obtain ⟨v, ws, rfl, r1, r2⟩ := Reps.cons_iff.mp h
    exact r2
  | d :: ds, vs, j + 1, h => by
    obtain ⟨v, ws, rfl, r1, r2⟩ := Reps.cons_iff.mp h
    exact Reps.cons r1 (reps_erase j r2)
theorem ss_popa (lv : 1 ≤ c.lev) {i : Nat} {ix : E} : SndS c g k (.popa i ix) := by
  refine SndS.one (fun W sc X x o h => ?_) fun _ _ => by unfold chSs; exact Bool.false_ne_true
  unfold chS at h
  split at h <;> try cases h
  simp only [Bool.and_eq_true, decide_eq_true_eq] at h
  obtain ⟨⟨⟨⟨⟨⟨h1, h2⟩, h3⟩, rfl⟩, h5⟩, h6⟩, h7⟩ := h
  have p := (sound (g := g) (k := k) lv ix).pe W sc sc X _ o h7
  refine ps_imp (ps_expr (pe_bm PySem.F.plainAttrs_list PySem.F.slot_list_pop PySem.F.type_list_pop mt_popAt (pv_i o.hN o.hsc h1 h2 h3) (pa_cons p pa_nil (star_ns h6 _ _)) rfl (few1 h6) h5 (star_ns h6 _ _) rfl)) fun D σ H ⟨S, ρ, st, hh, q⟩ => ?_
  simp only [run] at q
  obtain ⟨ds, es, q⟩ := get_l q
  have q := tO.out st q
  obtain ⟨a, vs, ea, hA, ra⟩ := slot_l st es
  refine ⟨.ref a, ea, .inl ⟨rfl, vs, .inl (.inl hA)⟩, S, ρ, st, (tR.asI q).mono (Same.refl _) fun s _ ⟨z, ez, q⟩ u H1 t1 r1 => ?_⟩
  subst ez
  have r1 := Rep.ofInt (k := k) (G := part (regP S ρ σ) H1) r1
  subst r1
  cases e3 : ixN ds.length z with
  | none => rw [e3] at q; exact q.elim
  | some j =>
    rw [e3] at q
    dsimp only at q
    by_cases hz : -(2 ^ 62) < z ∧ z < 2 ^ 62
    · rw [if_pos hz] at q
      have hj : j < ds.length := ixN_lt e3
      obtain ⟨y, ey, ry⟩ := ra.get (List.getElem?_eq_getElem hj)
      refine ⟨a, vs, z, j, y, rfl, rfl, t1 _ _ hA, by omega, by omega, by rw [ra.length]; exact (ixN_seq e3).1, ey, ?_⟩
      have st1 := st.mono t1
      have m0 : Same (reg S ρ σ H) (reg S ρ σ H1) := part_mono t1 fun _ _ _ z => z
      obtain ⟨s1, m1⟩ := st1.lput es ea (reps_erase j (Reps.mono m0 ra))
      exact q _ _ s1 (m0.trans m1)
    · rw [if_neg hz] at q; exact q.elim
theorem ss_put (lv : 1 ≤ c.lev) {i : Nat} {ix e : E} : SndS c g k (.put i ix e) := by
  refine SndS.one (fun W sc X x o h => ?_) fun _ _ => by unfold chSs; exact Bool.false_ne_true
  unfold chS at h
  split at h <;> try cases h
  rename_i n pn y ps v pos
  simp only [Bool.and_eq_true, decide_eq_true_eq] at h
  obtain ⟨⟨⟨⟨⟨⟨h1, h2⟩, h3⟩, h4⟩, h5⟩, h6⟩, h7⟩ := h
  have p := (sound (g := g) (k := k) lv e).pe W sc sc X _ o h6
  have pi := (sound (g := g) (k := k) lv ix).pe W sc sc X _ o h7
  refine ps_imp (ps_asg p (pg_sub (pv_i o.hN o.hsc h1 h2 h3) pi set_list (by intro _; cases y <;> first | rfl | exact absurd h5 Bool.false_ne_true)) (sole_nc h4)) fun D σ H ⟨S, ρ, st, hh, q⟩ => ?_
  simp only [run] at q
  obtain ⟨ds, es, q⟩ := get_l q
  have q := tO.out st q
  obtain ⟨a, vs, ea, hA, ra⟩ := slot_l st es
  refine tE.data st (q.mono (Same.refl _) fun d _ q v H1 t1 r1 => ?_)
  have st1 := st.mono t1
  refine ⟨.ref a, ea, ?_⟩
  have q := tO.out st1 (tO.grow t1 q)
  refine ⟨S, ρ, st1, (tR.asI q).mono (Same.refl _) fun s _ ⟨z, es', q⟩ w H2 t2 r2 => ?_⟩
  subst es'
  have r2 := Rep.ofInt (k := k) (G := part (regP S ρ σ) H2) r2
  subst r2
  cases e3 : ixN ds.length z with
  | none => rw [e3] at q; exact q.elim
  | some j =>
    rw [e3] at q
    have t12 := t1.trans t2
    refine ⟨a, vs, z, j, rfl, rfl, t12 _ _ hA, by rw [ra.length]; exact e3, ?_⟩
    have m0 : Same (reg S ρ σ H) (reg S ρ σ H2) := part_mono t12 fun _ _ _ z => z
    obtain ⟨s1, m1⟩ := (st1.mono t2).lput (es := ds.set j d) (ws := vs.set j v) es ea (reps_set (Reps.mono m0 ra) (Rep.mono (part_mono t2 fun _ _ _ z => z) r1))
    exact q _ _ s1 (Same.trans (part_mono t2 fun _ _ _ z => z) m1)
theorem asg_sub2 {n m : Str} {y z : Expr} {pn pm ps pt : Pos} {env : Env} : (assignEach [.Subscript (.Name n pn) y ps, .Subscript (.Name m pm) z pt] env).length = 2 ∧ (assignEach [.Subscript (.Name n pn) y ps, .Subscript (.Name m pm) z pt] env).findIdx? (·.1) = none := ⟨rfl, rfl⟩
theorem sw_sub2 {o o2 : Expr} {y z v : Expr} {ps pt p : Pos} {kk : Nat} {env : Env} : swappedStores [.Tuple [.Subscript o y ps, .Subscript o2 z pt] kk p] v env = pure none := by
  cases v <;> first | rfl | (unfold swappedStores; dsimp only; (repeat' split) <;> first | rfl | (rename_i h3 _ _; exact absurd rfl h3))
theorem ss_swp (lv : 1 ≤ c.lev) {i : Nat} {ix iy e : E} : SndS c g k (.swp i ix iy e) := by
  refine SndS.one (fun W sc X x o h => ?_) fun _ _ => by unfold chSs; exact Bool.false_ne_true
  unfold chS at h
  split at h <;> try cases h
  rename_i n pn y ps m pm z pt kk pp v pos
  simp only [Bool.and_eq_true, decide_eq_true_eq] at h
  obtain ⟨⟨⟨⟨⟨⟨⟨⟨h1, rfl⟩, h2⟩, h3⟩, h4⟩, h5⟩, h6⟩, h7⟩, h8⟩ := h
  have p := (sound (g := g) (k := k) lv e).pe W sc sc X _ o h6
  have px := (sound (g := g) (k := k) lv ix).pe W sc sc X _ o h7
  have py := (sound (g := g) (k := k) lv iy).pe W sc sc X _ o h8
  have g1 := pg_sub (pos := ps) (pv_i (pos := pn) o.hN o.hsc h1 h2 h3) px set_list (by intro _; cases y <;> first | rfl | exact absurd h4 Bool.false_ne_true)
  have g2 := pg_sub (pos := pt) (pv_i (pos := pm) o.hN o.hsc h1 h2 h3) py set_list (by intro _; cases z <;> first | rfl | exact absurd h5 Bool.false_ne_true)
  refine ps_imp (ps_asg p (pg_tup o.calm (pgs_cons g1 (pgs_cons g2 pgs_nil)) (asg_sub2 (env := X.env)).1 (asg_sub2 (env := X.env)).2) sole_tup sw_sub2) fun D σ H ⟨S, ρ, st, hh, q⟩ => ?_
  simp only [run] at q
  obtain ⟨ds, es, q⟩ := get_l q
  have q := tO.out st q
  obtain ⟨a, vs, ea, hA, ra⟩ := slot_l st es
  refine tE.data st (q.mono (Same.refl _) fun d _ q v H1 t1 r1 => ?_)
  split at q <;> try exact q.elim
  rename_i da db _
  rw [o.hK]
  obtain ⟨b, ws, rfl, hb, rb⟩ := r1.ofTup
  obtain ⟨v1, w1, rfl, ra1, rb1⟩ := Reps.cons_iff.mp rb
  obtain ⟨v2, w2, rfl, rb2, rn⟩ := Reps.cons_iff.mp rb1
  have := Reps.nil_iff.mp rn
  subst this
  refine ⟨b, [v1, v2], rfl, sqT_mono part_le hb, rfl, v1, [v2], rfl, ?_⟩
  have st1 := st.mono t1
  refine ⟨.ref a, ea, ?_⟩
  have q := tO.out st1 (tO.grow t1 q)
  refine ⟨S, ρ, st1, (tR.asI q).mono (Same.refl _) fun s _ ⟨x, es', q⟩ w H2 t2 r2 => ?_⟩
  subst es'
  have r2 := Rep.ofInt (k := k) (G := part (regP S ρ σ) H2) r2
  subst r2
  cases e3 : ixN ds.length x with
  | none => rw [e3] at q; exact q.elim
  | some j =>
    rw [e3] at q
    dsimp only at q
    have t12 := t1.trans t2
    have st2 := st1.mono t2
    refine ⟨a, vs, x, j, rfl, rfl, t12 _ _ hA, by rw [ra.length]; exact e3, ?_⟩
    have m0 : Same (reg S ρ σ H) (reg S ρ σ H2) := part_mono t12 fun _ _ _ z => z
    have m1 : Same (reg S ρ σ H1) (reg S ρ σ H2) := part_mono t2 fun _ _ _ z => z
    obtain ⟨s1, n1⟩ := st2.lput (es := ds.set j da) (ws := vs.set j v1) es ea (reps_set (Reps.mono m0 ra) (Rep.mono m1 ra1))
    refine ⟨v2, [], rfl, .ref a, ea, ?_⟩
    have es2 : (ρ.set i (some (Sl.l (ds.set j da))))[i]? = some (some (.l (ds.set j da))) := List.getElem?_set_self (List.getElem?_eq_some_iff.mp es).1
    obtain ⟨a', vs', ea', hA', ra'⟩ := slot_l s1 es2
    rw [ea] at ea'
    cases ea'
    have q := tO.out s1 (tO.shift (m1.trans n1) q)
    refine ⟨S, _, s1, (tR.asI q).mono (Same.refl _) fun s _ ⟨y', es', q⟩ w H3 t3 r3 => ?_⟩
    subst es'
    have r3 := Rep.ofInt (k := k) (G := part (regP S (ρ.set i (some (.l (ds.set j da)))) σ) H3) r3
    subst r3
    cases e4 : ixN (ds.set j da).length y' with
    | none => rw [e4] at q; exact q.elim
    | some l =>
      rw [e4] at q
      have s2 := s1.mono t3
      refine ⟨a, vs.set j v1, y', l, rfl, rfl, t3 _ _ upd_same, by rw [List.length_set, ra.length, ← List.length_set (as := ds) (i := j) (a := da)]; exact e4, ?_⟩
      have m3 : Same (reg S (ρ.set i (some (.l (ds.set j da)))) σ (upd H2 a (.lst (vs.set j v1)))) (reg S (ρ.set i (some (.l (ds.set j da)))) σ H3) := part_mono t3 fun _ _ _ z => z
      obtain ⟨a'', vs'', ea'', hA'', ra''⟩ := slot_l s2 es2
      rw [ea] at ea''
      cases ea''
      have ev2 : vs'' = vs.set j v1 := by
        have h1 : H3 a = some (.lst (vs.set j v1)) := t3 _ _ upd_same
        rw [hA''] at h1
        injection h1 with h1
        injection h1
      subst ev2
      obtain ⟨s3, n3⟩ := s2.lput (es := (ds.set j da).set l db) (ws := (vs.set j v1).set l v2) es2 ea (reps_set ra'' (Rep.mono m3 (Rep.mono (m1.trans n1) rb2)))
      exact ⟨rfl, q _ _ s3 (m3.trans n3)⟩
/-- the own dict in slot i is another one -/
theorem StOk.kputs {S : Sx} {ρ : En} {σ : St} {H : Hp} (st : StOk k S ρ σ H) {i : Nat} {t : Bool} {kvs kvs' : List (PD × PD)} {a : Addr} {o : HO} (e : ρ[i]? = some (some (.k t kvs))) (ea : σ[i]? = some (some (V.ref a))) (r : DictAt k (reg S ρ σ H) (upd H a o) t kvs' a) :
    StOk k S (ρ.set i (some (.k t kvs'))) σ (upd H a o) ∧ Same (reg S ρ σ H) (reg S (ρ.set i (some (.k t kvs'))) σ (upd H a o)) :=
  st.mut (s' := .k t kvs') (o := o) e rfl rfl ea ⟨a, rfl, r⟩
theorem ss_kput (lv : 1 ≤ c.lev) {i : Nat} {ix e : E} : SndS c g k (.kput i ix e) := by
  refine SndS.one (fun W sc X x o h => ?_) fun _ _ => by unfold chSs; exact Bool.false_ne_true
  unfold chS at h
  split at h <;> try cases h
  rename_i n pn y ps v pos
  simp only [Bool.and_eq_true, decide_eq_true_eq] at h
  obtain ⟨⟨⟨⟨⟨h1, h2⟩, h3⟩, h4⟩, h5⟩, h6⟩ := h
  have p := (sound (g := g) (k := k) lv e).pe W sc sc X _ o h5
  have pi := (sound (g := g) (k := k) lv ix).pe W sc sc X _ o h6
  have hu := o.hu lv
  refine ps_imp (ps_dput (by omega) (pv_i o.hN o.hsc h1 h2 h3) pi p (swaps_nc h4 _ _ _)) fun D σ H ⟨S, ρ, st, hh, q⟩ => ?_
  simp only [run] at q
  obtain ⟨t, kvs, er, q⟩ := get_k (r := fun z => tO k W S ρ D σ H z) q (fun z => z)
  have q := tO.out st q
  refine tE.data st (q.mono (Same.refl _) fun d _ q v H1 t1 r1 => ?_)
  have st1 := st.mono t1
  obtain ⟨a, ea, _⟩ := slot_k st er
  refine ⟨.ref a, ea, ?_⟩
  have q := tO.out st1 (tO.grow t1 q)
  refine tE.data st1 (q.mono (Same.refl _) fun x _ q w H2 t2 r2 => ?_)
  have st2 := st1.mono t2
  obtain ⟨a', ea', hd⟩ := slot_k st2 er
  rw [ea] at ea'
  cases ea'
  by_cases ho : keyOk t x = true ∧ g.tk = false ∧ kvs.length < sizeLine
  · rw [if_pos ho] at q
    have rv : Rep k (reg S ρ σ H2) d v := Rep.mono (part_mono t2 fun _ _ _ z => z) r1
    obtain ⟨ho1, ho2, ho3⟩ := ho
    have htk : k.tk = false := o.htk.trans ho2
    rcases hd with ⟨et, ks, eH, rk⟩ | ⟨et, ks, eH, rk⟩
    · subst et
      obtain ⟨yk, rfl⟩ := flatK_key ho1
      rw [rep_key r2]
      refine ⟨a, _, rfl, DPut.k eH (by rw [repK_len rk]; exact ho3), ?_⟩
      obtain ⟨s1, m1⟩ := st2.kputs (kvs' := putP kvs (keyPD yk) d) (o := .dK (putK ks yk v)) er ea (.inl ⟨rfl, _, upd_same, repK_put rk rv⟩)
      exact q _ _ s1 (Same.trans (part_mono t2 fun _ _ _ z => z) m1)
    · subst et
      cases x <;> simp only [keyOk, Bool.false_eq_true] at ho1
      obtain ⟨yk, rfl⟩ := flatK_keys ho1
      obtain ⟨b, vs, rfl, hb, rr⟩ := Rep.ofTupH htk r2
      rw [reps_keys rr] at hb
      refine ⟨a, _, rfl, DPut.t eH (part_some hb).2 (by rw [repT_len rk]; exact ho3), ?_⟩
      obtain ⟨s1, m1⟩ := st2.kputs (kvs' := putP kvs (.tup (yk.map keyPD)) d) (o := .dT (putK ks yk v)) er ea (.inr ⟨rfl, _, upd_same, repT_put rk rv⟩)
      exact q _ _ s1 (Same.trans (part_mono t2 fun _ _ _ z => z) m1)
  · rw [if_neg ho] at q; exact q.elim
theorem ss_ins (lv : 1 ≤ c.lev) {i : Nat} {ix e : E} : SndS c g k (.ins i ix e) := by
  refine SndS.one (fun W sc X x o h => ?_) fun _ _ => by unfold chSs; exact Bool.false_ne_true
  unfold chS at h
  split at h <;> try cases h
  simp only [Bool.and_eq_true, decide_eq_true_eq] at h
  obtain ⟨⟨⟨⟨⟨⟨⟨⟨h1, h2⟩, h3⟩, rfl⟩, h5⟩, h6⟩, h7⟩, h8⟩, h9⟩ := h
  have p := (sound (g := g) (k := k) lv e).pe W sc sc X _ o h9
  have pi := (sound (g := g) (k := k) lv ix).pe W sc sc X _ o h8
  refine ps_imp (ps_expr (pe_bm PySem.F.plainAttrs_list PySem.F.slot_list_insert PySem.F.type_list_insert mt_insert (pv_i o.hN o.hsc h1 h2 h3) (pa_cons pi (pa_cons p pa_nil (star_ns h7 _ _)) (star_ns h6 _ _)) rfl (by rw [star_ns h6, star_ns h7]; rfl) h5 (star_ns h6 _ _) (by rw [star_ns h7]; rfl))) fun D σ H ⟨S, ρ, st, hh, q⟩ => ?_
  simp only [run] at q
  obtain ⟨ds, es, q⟩ := get_l q
  have q := tO.out st q
  obtain ⟨a, vs, ea, hA, ra⟩ := slot_l st es
  refine ⟨.ref a, ea, .inl ⟨rfl, vs, .inl (.inl hA)⟩, S, ρ, st, (tR.asI q).mono (Same.refl _) fun s _ ⟨j, ej, q⟩ u H1 t1 r1 => ?_⟩
  subst ej
  have r1 := Rep.ofInt (k := k) (G := part (regP S ρ σ) H1) r1
  subst r1
  have st1 := st.mono t1
  have q := tO.out st1 (tO.grow t1 q)
  refine tE.data st1 (q.mono (Same.refl _) fun d _ q v H2 t2 r2 => ?_)
  by_cases hz : 0 ≤ j ∧ j < 2 ^ 62 ∧ ds.length < sizeLine
  · rw [if_pos hz] at q
    have t12 := t1.trans t2
    refine ⟨a, vs, j, v, rfl, rfl, t12 _ _ hA, by rw [ra.length]; exact hz.2.2, hz.1, by omega, ?_⟩
    have ra2 : Reps k (reg S ρ σ H2) ds vs := Reps.mono (part_mono t12 fun _ _ _ z => z) ra
    obtain ⟨s1, m1⟩ := (st1.mono t2).lput es ea (Reps.append (Reps.append (Reps.take j.toNat ra2) (Reps.cons r2 Reps.nil)) (Reps.drop j.toNat ra2))
    exact q _ _ s1 (Same.trans (part_mono t2 fun _ _ _ z => z) m1)
  · rw [if_neg hz] at q; exact q.elim
theorem ss_pput (lv : 1 ≤ c.lev) {i : Nat} {ix e : E} : SndS c g k (.pput i ix e) := by
  refine SndS.one (fun W sc X x o h => ?_) fun _ _ => by unfold chSs; exact Bool.false_ne_true
  unfold chS at h
  split at h <;> try cases h
  rename_i n pn y ps v pos
  simp only [Bool.and_eq_true, decide_eq_true_eq] at h
  obtain ⟨⟨⟨⟨⟨⟨h1, h2⟩, h3⟩, h4⟩, h5⟩, h6⟩, h7⟩ := h
  have p := (sound (g := g) (k := k) lv e).pe W sc sc X _ o h6
  have pi := (sound (g := g) (k := k) lv ix).pe W sc sc X _ o h7
  refine ps_imp (ps_asg p (pg_sub (pv_i o.hN o.hsc h1 h2 h3) pi (set_pot (P := k.P)) (by intro _; cases y <;> first | rfl | exact absurd h5 Bool.false_ne_true)) (sole_nc h4)) fun D σ H ⟨S, ρ, st, hh, q⟩ => ?_
  simp only [run] at q
  obtain ⟨er, q⟩ := get_pot (r := fun z => tO k W S ρ D σ H z) q (fun z => z)
  have q := tO.out st q
  obtain ⟨a, ea, hA⟩ := slot_pot st er
  refine ⟨S, ρ, st, (tR.asI q).mono (Same.refl _) fun s _ ⟨z, es, q⟩ v H1 t1 r1 => ?_⟩
  subst es
  have r1 := Rep.ofInt (k := k) (G := part (regP S ρ σ) H1) r1
  subst r1
  have st1 := st.mono t1
  refine ⟨.ref a, ea, ?_⟩
  have q := tO.out st1 (tO.grow t1 q)
  refine ⟨S, ρ, st1, (tR.asI q).mono (Same.refl _) fun s _ ⟨j, es, q⟩ w H2 t2 r2 => ?_⟩
  subst es
  have r2 := Rep.ofInt (k := k) (G := part (regP S ρ σ) H2) r2
  subst r2
  cases em : g.pr j with
  | none => rw [em] at q; exact q.elim
  | some m =>
    rw [em] at q
    dsimp only at q
    by_cases hm : inR m z
    · rw [if_pos hm] at q
      exact ⟨a, j, z, rfl, rfl, rfl, (t1.trans t2) _ _ hA, fun ns hn => o.prs ns hn j z m em hm, q σ H2 (st1.mono t2) (part_mono t2 fun _ _ _ z => z)⟩
    · rw [if_neg hm] at q; exact q.elim
end
end FS

set_option maxRecDepth 100000
set_option autoImplicit false
set_option maxHeartbeats 4000000
/-! Statements, the rest: that all of them do what the small language tells. -/
namespace FS
open PySem PySem.Spec L2
section
variable {c : Cc} {g : Gs} {k : Kx} {W : WX} {sc : Scope} {X : Cx}
theorem ss_pass : SndS c g k .pass := by
  refine SndS.one (fun W sc X x o h => ?_) fun _ _ => by unfold chSs; exact Bool.false_ne_true
  unfold chS at h
  split at h <;> try cases h
  refine ps_imp ps_pass fun D σ H ⟨S, ρ, st, hh, q⟩ => ?_
  simp only [run] at q
  exact q σ H st (Same.refl _)
theorem ss_brk : SndS c g k .brk := by
  refine SndS.one (fun W sc X x o h => ?_) fun _ _ => by unfold chSs; exact Bool.false_ne_true
  unfold chS at h
  split at h <;> try cases h
  refine ps_imp ps_break fun D σ H ⟨S, ρ, st, hh, q⟩ => ?_
  simp only [run] at q
  exact q σ H st (Same.refl _)
theorem ss_cnt : SndS c g k .cnt := by
  refine SndS.one (fun W sc X x o h => ?_) fun _ _ => by unfold chSs; exact Bool.false_ne_true
  unfold chS at h
  split at h <;> try cases h
  refine ps_imp ps_continue fun D σ H ⟨S, ρ, st, hh, q⟩ => ?_
  simp only [run] at q
  exact q σ H st (Same.refl _)
theorem ss_expr (lv : 1 ≤ c.lev) {e : E} : SndS c g k (.expr e) := by
  refine SndS.one (fun W sc X x o h => ?_) fun _ _ => by unfold chSs; exact Bool.false_ne_true
  unfold chS at h
  split at h <;> try cases h
  simp only [Bool.and_eq_true] at h
  refine ps_imp (ps_expr ((sound (g := g) (k := k) lv e).pe W sc sc X _ o h.2) (swaps_nc h.1 none _ _)) fun D σ H ⟨S, ρ, st, hh, q⟩ => ?_
  simp only [run] at q
  refine ⟨S, ρ, st, (tO.out st q).mono (Same.refl _) fun s _ q v H' t r => ?_⟩
  exact q σ H' (st.mono t) (part_mono t fun _ _ _ z => z)
theorem ss_ret (lv : 1 ≤ c.lev) {e : E} : SndS c g k (.ret e) := by
  refine SndS.one (fun W sc X x o h => ?_) fun _ _ => by unfold chSs; exact Bool.false_ne_true
  unfold chS at h
  split at h <;> try cases h
  refine ps_imp (ps_ret ((sound (g := g) (k := k) lv e).pe W sc sc X _ o h)) fun D σ H ⟨S, ρ, st, hh, q⟩ => ?_
  simp only [run] at q
  refine ⟨S, ρ, st, (tO.out st q).mono (Same.refl _) fun s _ q v H' t r => ?_⟩
  exact q v σ H H' st t (Same.refl _) (st.ret r)
theorem ss_retm {i : Nat} : SndS c g k (.retm i) := by
  refine SndS.one (fun W sc X x o h => ?_) fun _ _ => by unfold chSs; exact Bool.false_ne_true
  unfold chS at h
  split at h <;> try cases h
  simp only [Bool.and_eq_true, decide_eq_true_eq] at h
  obtain ⟨⟨h1, h2⟩, h3⟩ := h
  refine ps_imp (ps_ret (pv_i o.hN o.hsc h1 h2 h3)) fun D σ H ⟨S, ρ, st, hh, q⟩ => ?_
  simp only [run] at q
  cases e : ρ[i]? with
  | none => rw [e] at q; exact q.elim
  | some u =>
    cases u with
    | none => rw [e] at q; exact q.elim
    | some s =>
      rw [e] at q
      obtain ⟨v, e1, r⟩ := st.retm e
      exact ⟨v, e1, q v σ H H st (Same.refl _) (Same.refl _) r⟩
theorem ss_retn : SndS c g k .retn := by
  refine SndS.one (fun W sc X x o h => ?_) fun _ _ => by unfold chSs; exact Bool.false_ne_true
  unfold chS at h
  split at h <;> try cases h
  refine ps_imp ps_retN fun D σ H ⟨S, ρ, st, hh, q⟩ => ?_
  simp only [run] at q
  refine q .non σ H H st (Same.refl _) (Same.refl _) ?_
  show Rep k (part (fun a => S.Rg a ∨ S.H0 a = none) H) .non .non
  simp only [Rep]
theorem ss_raise {j : Nat} : SndS c g k (.raise j) := by
  refine SndS.one (fun W sc X x o h => ?_) fun _ _ => by unfold chSs; exact Bool.false_ne_true
  unfold chS at h
  split at h <;> try cases h
  simp only [Bool.and_eq_true, decide_eq_true_eq] at h
  obtain ⟨⟨h1, h2⟩, h3⟩ := h
  obtain ⟨C, ec, eX, kin, exc, ra, _, _, _⟩ := o.cls j _ h1
  refine ps_imp (ps_raise o.calm o.takes (pmk_own PySem.F.excBase_ValueError exc eX kin ra (gl_of o.hsc h2) (okN_dbg h3).1)) fun D σ H ⟨S, ρ, st, hh, q⟩ => ?_
  simp only [run] at q
  have := q σ H st (Same.refl _)
  rw [ec] at this
  exact this
theorem ss_ifs (lv : 1 ≤ c.lev) {e : E} {a d : S} (ha : SndS c g k a) (hd : SndS c g k d) : SndS c g k (.ifs e a d) := by
  refine SndS.one (fun W sc X x o h => ?_) fun _ _ => by unfold chSs; exact Bool.false_ne_true
  unfold chS at h
  split at h <;> try cases h
  simp only [Bool.and_eq_true] at h
  obtain ⟨⟨h1, h2⟩, h3⟩ := h
  refine ps_imp (ps_if ((sound (g := g) (k := k) lv e).pt W sc sc X _ o h1) (ha.pss W sc X _ o h2) (hd.pss W sc X _ o h3)) fun D σ H ⟨S, ρ, st, hh, q⟩ => ?_
  simp only [run] at q
  refine ⟨S, ρ, st, (tO.out st q).mono (Same.refl _) fun b _ q H' t => ?_⟩
  have q := tO.grow t q
  cases b with
  | true => exact ⟨S, ρ, st.mono t, hh, q⟩
  | false => exact ⟨S, ρ, st.mono t, hh, q⟩
theorem ss_whl (lv : 1 ≤ c.lev) {fuel : En → Nat} {e : E} {b : S} (hb : SndS c g k b) : SndS c g k (.whl fuel e b) := by
  refine SndS.one (fun W sc X x o h => ?_) fun _ _ => by unfold chSs; exact Bool.false_ne_true
  unfold chS at h
  split at h <;> try cases h
  simp only [Bool.and_eq_true] at h
  obtain ⟨h1, h2⟩ := h
  refine ps_imp (ps_while o.own ((sound (g := g) (k := k) lv e).pt W sc sc X _ o h1) (hb.pss W sc X _ o h2)) fun D σ H ⟨S, ρ, st, hh, q⟩ => ?_
  simp only [run] at q
  refine ⟨fun m σ1 H1 => ∃ ρ1, StOk k S ρ1 σ1 H1 ∧ tO k W S ρ1 D σ1 H1 (runW (fun ρ => asB (ev g e ρ)) (run g b) m ρ1), ⟨fuel ρ, ρ, st, q⟩, ?_⟩
  rintro m σ1 H1 ⟨ρ1, st1, q1⟩
  cases m with
  | zero => rw [runW] at q1; exact q1.elim
  | succ n =>
    rw [runW] at q1
    refine ⟨S, ρ1, st1, (tO.out st1 q1).mono (Same.refl _) fun t _ q2 H2 t2 => ?_⟩
    have st2 := st1.mono t2
    have q2 := tO.grow t2 q2
    cases t with
    | false => exact q2 σ1 H2 st2 (Same.refl _)
    | true =>
      rw [if_pos rfl] at q2
      dsimp only
      rw [if_pos rfl]
      refine ⟨fun σ' H' => ∃ ρ', StOk k S ρ' σ' H' ∧ tO k W S ρ' D σ' H' (runW (fun ρ => asB (ev g e ρ)) (run g b) n ρ'), fun σ' H' z => ⟨n, by omega, z⟩, S, ρ1, st2, hh, ?_⟩
      exact tO.go q2 (fun ρ' σ' H' st' m' z => ⟨ρ', st', z⟩) (fun _ _ z => z) (fun ρ' σ' H' st' m' z => ⟨ρ', st', z⟩) fun ρ' σ' H' st' m' z => z σ' H' st' (Same.refl _)
theorem yl_rep {S : Sx} {ρ : En} {σ : St} {H H3 : Hp} {d : PD} {x : V} (st : StOk k S ρ σ H) (y : Yl k (reg S ρ σ H) H d x H3) : Same H H3 ∧ Rep k (reg S ρ σ H3) d x := by
  rcases y with ⟨rfl, r⟩ | ⟨T, ws, es, nT, rfl, rfl, rfl, r⟩
  · exact ⟨Same.refl _, r⟩
  · have pT := st.fresh nT
    exact ⟨same_new nT, Rep.tup (.inl ((part_eq pT).trans upd_same)) (Reps.mono (part_mono (same_new nT) fun _ _ _ z => z) r)⟩
theorem ss_fr (lv : 1 ≤ c.lev) {t : Tg} {it : E} {b : S} (hb : SndS c g k b) : SndS c g k (.fr t it b) := by
  refine SndS.one (fun W sc X x o h => ?_) fun _ _ => by unfold chSs; exact Bool.false_ne_true
  unfold chS at h
  split at h <;> try cases h
  simp only [Bool.and_eq_true] at h
  obtain ⟨⟨h1, h2⟩, h3⟩ := h
  obtain ⟨pi, fold⟩ := (sound (g := g) (k := k) lv it).pi W sc sc X _ _ o h2
  refine ps_imp (ps_for o.own o.calm pi (pg_T o.hN o.nd o.calm o.wr h1) (hb.pss W sc X _ o h3) fold) fun D σ H ⟨S, ρ, st, hh, q⟩ => ?_
  simp only [run] at q
  rw [o.hK]
  refine ⟨S, ρ, st, (tO.out st q).mono (Same.refl _) fun ds _ q J H1 t1 go => ?_⟩
  have st1 := st.mono t1
  have q := tO.grow t1 q
  refine ⟨fun i m σ2 H2 => m = ds.length - i ∧ i ≤ ds.length ∧ ∃ ρ2, StOk k S ρ2 σ2 H2 ∧ Same (reg S ρ σ H1) (reg S ρ2 σ2 H2) ∧ tO k W S ρ2 D σ2 H2 (runF t (run g b) (ds.drop i) ρ2),
    ⟨ds.length, by omega, Nat.zero_le _, ρ, st1, Same.refl _, q⟩, ?_⟩
  rintro i m σ2 H2 ⟨rfl, hi, ρ2, st2, m2, q2⟩
  obtain ⟨goI, stopI⟩ := go i _ H2 m2 part_le
  by_cases hlt : i < ds.length
  · have ex : ds[i]? = some ds[i] := List.getElem?_eq_getElem hlt
    rw [List.drop_eq_getElem_cons hlt] at q2
    rw [runF] at q2
    obtain ⟨g1, yl⟩ := goI _ ex
    refine .inr ⟨g1, fun σ' H' => i + 1 ≤ ds.length ∧ ∃ ρ', StOk k S ρ' σ' H' ∧ Same (reg S ρ σ H1) (reg S ρ' σ' H') ∧ tO k W S ρ' D σ' H' (runF t (run g b) (ds.drop (i + 1)) ρ'),
      fun σ' H' z => ⟨ds.length - (i + 1), by omega, rfl, z⟩, fun x H3 y => ?_⟩
    obtain ⟨t3, rx⟩ := yl_rep st2 (yl x H3 y)
    have st3 := st2.mono t3
    have q3 := tO.grow t3 q2
    have m3 : Same (reg S ρ σ H1) (reg S ρ2 σ2 H3) := m2.trans (part_mono t3 fun _ _ _ z => z)
    obtain ⟨ρ3, eb, q3⟩ := (tO.out st3 q3).bound
    refine imp_T st3 rx eb fun σ4 ⟨s4, m4, _⟩ => ⟨S, ρ3, s4, hh, ?_⟩
    have q4 := tO.shift m4 q3
    have m5 := m3.trans m4
    exact tO.go q4 (fun ρ' σ' H' st' m' z => ⟨hlt, ρ', st', m5.trans m', z⟩) (fun _ _ z => z) (fun ρ' σ' H' st' m' z => ⟨hlt, ρ', st', m5.trans m', z⟩) fun ρ' σ' H' st' m' z => z σ' H' st' (Same.refl _)
  · have ei : i = ds.length := by omega
    subst ei
    rw [List.drop_length, runF] at q2
    exact .inl ⟨stopI (Nat.le_refl _), q2 σ2 H2 st2 (Same.refl _)⟩
theorem tO.catch {f : Nat → En → Out} {W' : WX} {S : Sx} {ρ : En} {D : Ends} {σ : St} {H : Hp} {o : Out} (h : tO k W S ρ D σ H (o.catch f))
    (he : ∀ e ρ' σ' H', StOk k S ρ' σ' H' → Same (reg S ρ σ H) (reg S ρ' σ' H') → tO k W S ρ' D σ' H' (f e ρ') → W' (k.cv e) none σ' H') : tO k W' S ρ D σ H o := by
  induction o with
  | nx ρ' => exact h
  | ct ρ' => exact h
  | bk ρ' => exact h
  | rt s ρ' => exact h
  | ex c ρ' => exact fun σ' H' st m => he c ρ' σ' H' st m (tO.shift m h)
  | st => exact h.elim
  | ask m f ih => exact fun j h0 => ih j (h j h0)
theorem quE_pe {e : E} {x : Expr} {W : WX} {X' : Cx} (hN : X'.N = c.N) (hS : X'.env.scope = sc) (hq : quE e = true) (h : chE c e false sc x = true) : PE X' x (tE k W (ev g e)) := by
  cases e <;> first | exact absurd hq Bool.false_ne_true | skip
  · rename_i i
    unfold chE at h
    split at h <;> try cases h
    simp only [Bool.and_eq_true, decide_eq_true_eq] at h
    exact pe_eq (pe_v hN hS h.1.1 h.1.2 h.2) fun ρ => by first | (simp only [ev]; done) | (simp only [ev]; rfl)
  · rename_i d
    refine pe_eq (f := fun _ => .ok (.v d)) ?_ fun ρ => by simp only [ev]
    unfold chE at h
    split at h <;> try cases h
    split at h <;> simp only [decide_eq_true_eq, Bool.false_eq_true] at h
    · subst h; exact pe_ci
    · subst h; exact pe_cb
    · subst h; exact pe_cs
    · exact pe_cn
theorem quA_pa {W : WX} {X' : Cx} (hN : X'.N = c.N) (hS : X'.env.scope = sc) : ∀ (es : E) (xs : List Expr), quA es = true → chA c es sc xs = true → PA X' xs (tA k W (evs g es)) ∧ xs.all nsB = true := by
  intro es
  induction es with
  | nil =>
    intro xs _ h
    unfold chA at h
    split at h <;> try cases h
    exact ⟨pa_eq pa_n fun ρ => by simp only [evs], rfl⟩
  | cons e es _ ih =>
    intro xs hq h
    unfold quA at hq
    rw [Bool.and_eq_true] at hq
    unfold chA at h
    split at h <;> try cases h
    simp only [Bool.and_eq_true] at h
    obtain ⟨p, ns⟩ := ih _ hq.2 h.2
    exact ⟨pa_eq (pa_c h.1.1 (quE_pe (g := g) (k := k) (W := W) hN hS hq.1 h.1.2) p) fun ρ => by simp only [evs], by rw [List.all_cons, h.1.1, ns]; rfl⟩
  | _ => exact fun xs hq _ => absurd hq (by unfold quA; exact Bool.false_ne_true)
theorem quQ_pe {W : WX} {X' : Cx} (o : OkQ c g k sc sc X') (hr : L2H.RoomH c.lev X'.A) {e : E} {x : Expr} (h : chQe c sc e x = true) : PE X' x (tE k W (ev g e)) := by
  unfold chQe at h
  split at h
  · rename_i xx f es
    split at h <;> try cases h
    simp only [Bool.and_eq_true, decide_eq_true_eq] at h
    obtain ⟨⟨⟨⟨⟨h1, h2⟩, h3⟩, h4⟩, h5⟩, h6⟩ := h
    obtain ⟨fa, fd, ps, F, hm, kp, hb, hl⟩ := o.fq f _ h1 h2
    obtain ⟨pa, ns⟩ := quA_pa (g := g) (k := k) (W := W) o.hN o.hsc es _ h5 h6
    exact pe_eq (pe_qc F hr (gl_of o.hsc h3) hm kp hb ns h4 hl pa) fun ρ => by simp only [ev]
  · rw [Bool.and_eq_true] at h
    exact quE_pe o.hN o.hsc h.1 h.2
theorem out_go {α : Type} {n c b : En → Out} {f : α → Out} {ρ : En} (r : R α) : (r.out ρ f).go n c b = r.out ρ fun a => (f a).go n c b := by
  induction r with
  | ok a => rfl
  | ex c => rfl
  | st => rfl
  | ask m k ih =>
    show Out.ask m (fun i => ((k i).out ρ f).go n c b) = Out.ask m fun i => (k i).out ρ fun a => (f a).go n c b
    exact congrArg _ (funext ih)
theorem qs_set {X' : Cx} (o : OkQ c g k sc sc X') {W : WX} {i : Nat} {e : E} {r : S} {n : Str} {v : Expr} {pn ps : Pos} {ys : List Stmt} (p : PE X' v (tE k W (ev g e))) (h2 : c.N[i]? = some n) (h3 : wrB sc n = true) (h4 : ncB v = true)
    (ih : PSs X' ys (tSt k W (run g r))) : PSs X' (.Assign [.Name n pn] v ps :: ys) (tSt k W (run g (.seq (.set i e) r))) := by
  obtain ⟨w1, w2⟩ := o.wr n h3
  refine pss_imp (pss_cons (ps_set (by rw [o.hN]; exact o.nd) (by rw [o.hN]; exact h2) w1 p (swaps_nc h4 _ _ _) w2) ih) fun D σ H ⟨S, ρ, st, hh, q⟩ => ?_
  simp only [run] at q
  rw [out_go] at q
  refine tE.data st ?_
  refine (tO.out st q).mono (Same.refl _) fun d _ q v H' t r => ?_
  have st' := st.mono t
  obtain ⟨s1, m1⟩ := st'.setV r i
  exact ⟨S, _, s1, hh, tO.shift (Same.trans (part_mono t fun _ _ _ z => z) m1) q⟩
theorem qs_ret {X' : Cx} {W : WX} {e : E} {r : S} {v : Expr} {ps : Pos} {ys : List Stmt} (p : PE X' v (tE k W (ev g e)))
    (ih : PSs X' ys (tSt k W (run g r))) : PSs X' (.Return (some v) ps :: ys) (tSt k W (run g (.seq (.ret e) r))) := by
  refine pss_imp (pss_cons (ps_ret p) ih) fun D σ H ⟨S, ρ, st, hh, q⟩ => ?_
  simp only [run] at q
  rw [out_go] at q
  refine ⟨S, ρ, st, ?_⟩
  refine (tO.out st q).mono (Same.refl _) fun s _ q v H' t r => ?_
  exact q v σ H H' st t (Same.refl _) (st.ret r)
/-- an except suite -/
theorem quS {X' : Cx} (o : OkQ c g k sc sc X') (hr : L2H.RoomH c.lev X'.A) :
    ∀ (q : S) (xs : List Stmt), chQs c sc q xs = true → PSs X' xs (tSt k W (run g q)) := by
  intro q xs h
  fun_induction chQs c sc q xs with
  | case1 =>
    refine pss_imp pss_nil fun D σ H ⟨S, ρ, st, hh, q⟩ => ?_
    simp only [run] at q
    exact q σ H st (Same.refl _)
  | case2 i e r n pn v ps ys ih =>
    simp only [Bool.and_eq_true, decide_eq_true_eq] at h
    obtain ⟨⟨⟨⟨h1, h2⟩, h3⟩, h4⟩, h6⟩ := h
    exact qs_set o (quQ_pe o hr h1) h2 h3 h4 (ih h6)
  | case3 e r v ps ys ih =>
    simp only [Bool.and_eq_true] at h
    obtain ⟨h1, h6⟩ := h
    exact qs_ret (quQ_pe o hr h1) (ih h6)
  | case4 => cases h
/-- a def that raises nothing -/
theorem quX_ok {X' : Cx} (o : OkQ c g k sc sc X') {W : WX} : ∀ e : E, quX e = true → (∀ x, chE c e false sc x = true → PE X' x (tE k W (ev g e))) ∧ (∀ x, chE c e true sc x = true → PT X' x (tT k W fun ρ => asB (ev g e ρ))) := by
  have vl : ∀ e : E, quE e = true → (∀ x, chE c e true sc x = true → chE c e false sc x = true ∧ ptB x = true) → (∀ x, chE c e false sc x = true → PE X' x (tE k W (ev g e))) ∧ (∀ x, chE c e true sc x = true → PT X' x (tT k W fun ρ => asB (ev g e ρ))) :=
    fun e hq hm => ⟨fun x h => quE_pe o.hN o.hsc hq h, fun x h => pt_of (hm x h).2 (quE_pe o.hN o.hsc hq (hm x h).1)⟩
  intro e
  induction e with
  | var i =>
    intro _
    refine vl _ rfl fun x h => ?_
    refine ⟨by unfold chE at h ⊢; exact h, ?_⟩
    unfold chE at h
    split at h <;> first | rfl | cases h
  | lit d =>
    intro _
    refine vl _ rfl fun x h => ?_
    refine ⟨by unfold chE at h ⊢; exact h, ?_⟩
    unfold chE at h
    split at h <;> first | rfl | cases h
  | isi mm ts a ih =>
    intro hq
    have ih := ih hq
    have pe : ∀ (m : Bool) (x : Expr), chE c (.isi mm ts a) m sc x = true → PE X' x (tE k W (ev g (.isi mm ts a))) := fun m x h => by
      refine pe_eq ?_ fun ρ => (show isiE g ts (ev g a) ρ = ev g (.isi mm ts a) ρ by first | (simp only [ev, isiE]; done) | (simp only [ev, isiE]; rfl))
      unfold chE at h
      split at h
      · simp only [Bool.and_eq_true, decide_eq_true_eq] at h
        obtain ⟨⟨⟨⟨⟨rfl, h2⟩, h3⟩, h4⟩, h5⟩, h6⟩ := h
        split at h6
        · exact pe_is1 o h3 h2 h4 h6 (ih.1 _ h5)
        · simp only [Bool.and_eq_true, decide_eq_true_eq] at h6
          exact pe_isT o h3 h2 h4 h6.1 (by simp) h6.2 (ih.1 _ h5)
        · cases h6
      · cases h
    refine ⟨pe false, fun x h => pt_of ?_ (pe true x h)⟩
    unfold chE at h
    split at h <;> first | rfl | cases h
  | and a d iha ihd =>
    intro hq
    unfold quX at hq
    rw [Bool.and_eq_true] at hq
    have iha := iha hq.1
    have ihd := ihd hq.2
    refine ⟨fun x h => ?_, fun x h => ?_⟩ <;> unfold chE at h <;> split at h <;> try cases h
    · rename_i y z r p
      obtain ⟨h1, h2⟩ := and5 h
      refine pe_eq (pe_an (iha.1 _ h1) (g := ev g d) ?_) fun ρ => by simp only [ev]
      cases r with
      | nil => exact pe_one (ihd.1 _ h2)
      | cons _ _ => exact ihd.1 _ h2
    · rename_i y z r p
      obtain ⟨h1, h2⟩ := and5 h
      refine pt_eq (pt_an (iha.2 _ h1) (gb := fun ρ => asB (ev g d ρ)) ?_) fun ρ => ?_
      · cases r with
        | nil => exact pt_one' (ihd.2 _ h2)
        | cons _ _ => exact ihd.2 _ h2
      · simp only [ev]
        rw [asB_bind]
        refine congrArg _ (funext fun b => ?_)
        cases b with
        | true => first | rfl | exact (asB_okB2 _).symm | (rw [if_pos rfl, if_pos rfl]; exact (asB_okB2 _).symm) | (rw [if_neg Bool.false_ne_true, if_neg Bool.false_ne_true]; exact (asB_okB2 _).symm)
        | false => first | rfl | exact (asB_okB2 _).symm | (rw [if_pos rfl, if_pos rfl]; exact (asB_okB2 _).symm) | (rw [if_neg Bool.false_ne_true, if_neg Bool.false_ne_true]; exact (asB_okB2 _).symm)
  | or a d iha ihd =>
    intro hq
    unfold quX at hq
    rw [Bool.and_eq_true] at hq
    have iha := iha hq.1
    have ihd := ihd hq.2
    refine ⟨fun x h => ?_, fun x h => ?_⟩ <;> unfold chE at h <;> split at h <;> try cases h
    · rename_i y z r p
      obtain ⟨h1, h2⟩ := and5 h
      refine pe_eq (pe_or' (iha.1 _ h1) (g := ev g d) ?_) fun ρ => by simp only [ev]
      cases r with
      | nil => exact pe_one (ihd.1 _ h2)
      | cons _ _ => exact ihd.1 _ h2
    · rename_i y z r p
      obtain ⟨h1, h2⟩ := and5 h
      refine pt_eq (pt_or' (iha.2 _ h1) (gb := fun ρ => asB (ev g d ρ)) ?_) fun ρ => ?_
      · cases r with
        | nil => exact pt_one' (ihd.2 _ h2)
        | cons _ _ => exact ihd.2 _ h2
      · simp only [ev]
        rw [asB_bind]
        refine congrArg _ (funext fun b => ?_)
        cases b with
        | true => first | rfl | exact (asB_okB2 _).symm | (rw [if_pos rfl, if_pos rfl]; exact (asB_okB2 _).symm) | (rw [if_neg Bool.false_ne_true, if_neg Bool.false_ne_true]; exact (asB_okB2 _).symm)
        | false => first | rfl | exact (asB_okB2 _).symm | (rw [if_pos rfl, if_pos rfl]; exact (asB_okB2 _).symm) | (rw [if_neg Bool.false_ne_true, if_neg Bool.false_ne_true]; exact (asB_okB2 _).symm)
  | not a ih =>
    intro hq
    have ih := ih hq
    refine ⟨fun x h => ?_, fun x h => ?_⟩ <;> unfold chE at h <;> split at h <;> try cases h
    · exact pe_eq (pe_nt (ih.1 _ h)) fun ρ => by simp only [ev]
    · refine pt_eq (pt_nt (ih.2 _ h)) fun ρ => ?_
      simp only [ev]
      rw [asB_bind]
      rfl
  | _ => exact fun hq => absurd hq (by unfold quX; exact Bool.false_ne_true)
theorem qb_if {X' : Cx} {W : WX} {e : E} {a d r : S} {q : Expr} {us ds : List Stmt} {ps : Pos} {ys : List Stmt} (p : PT X' q (tT k W fun ρ => asB (ev g e ρ))) (ha : PSs X' us (tSt k W (run g a))) (hd : PSs X' ds (tSt k W (run g d)))
    (ih : PSs X' ys (tSt k W (run g r))) : PSs X' (.If q us ds ps :: ys) (tSt k W (run g (.seq (.ifs e a d) r))) := by
  refine pss_imp (pss_cons (ps_if p ha hd) ih) fun D σ H ⟨S, ρ, st, hh, q⟩ => ?_
  simp only [run] at q
  rw [out_go] at q
  refine ⟨S, ρ, st, (tO.out st q).mono (Same.refl _) fun b _ q H' t => ?_⟩
  have q := tO.grow t q
  cases b with
  | true =>
    refine ⟨S, ρ, st.mono t, hh, ?_⟩
    exact tO.go q (fun ρ' σ' H' st' m' z => ⟨S, ρ', st', hh, z⟩) (fun _ _ z => z) (fun ρ' σ' H' st' m' z => z σ' H' st' (Same.refl _)) fun ρ' σ' H' st' m' z => z σ' H' st' (Same.refl _)
  | false =>
    refine ⟨S, ρ, st.mono t, hh, ?_⟩
    exact tO.go q (fun ρ' σ' H' st' m' z => ⟨S, ρ', st', hh, z⟩) (fun _ _ z => z) (fun ρ' σ' H' st' m' z => z σ' H' st' (Same.refl _)) fun ρ' σ' H' st' m' z => z σ' H' st' (Same.refl _)
theorem quB {X' : Cx} (o : OkQ c g k sc sc X') {W : WX} : ∀ (q : S) (xs : List Stmt), chB c sc q xs = true → PSs X' xs (tSt k W (run g q)) := by
  intro q xs h
  fun_induction chB c sc q xs with
  | case1 =>
    refine pss_imp pss_nil fun D σ H ⟨S, ρ, st, hh, q⟩ => ?_
    simp only [run] at q
    exact q σ H st (Same.refl _)
  | case2 i e r n pn v ps ys ih =>
    simp only [Bool.and_eq_true, decide_eq_true_eq] at h
    obtain ⟨⟨⟨⟨⟨h1, h2⟩, h3⟩, h4⟩, h5⟩, h6⟩ := h
    exact qs_set o ((quX_ok o e h1).1 _ h5) h2 h3 h4 (ih h6)
  | case3 e r v ps ys ih =>
    simp only [Bool.and_eq_true] at h
    obtain ⟨⟨h1, h5⟩, h6⟩ := h
    exact qs_ret ((quX_ok o e h1).1 _ h5) (ih h6)
  | case4 e a d r q us ds ps ys iha ihd ih =>
    simp only [Bool.and_eq_true] at h
    obtain ⟨⟨⟨⟨h1, h2⟩, h3⟩, h4⟩, h5⟩ := h
    exact qb_if ((quX_ok o e h1).2 _ h2) (iha h3) (ihd h4) (ih h5)
  | case5 => cases h
theorem ss_tryc {bd : S} {j i : Nat} {q : S} (hb : SndS c g k bd) : SndS c g k (.tryc bd j i q) := by
  refine SndS.one (fun W sc X x o h => ?_) fun _ _ => by unfold chSs; exact Bool.false_ne_true
  unfold chS at h
  split at h <;> try cases h
  rename_i xs m pm n y ys ps1 ps2
  simp only [Bool.and_eq_true, decide_eq_true_eq] at h
  obtain ⟨⟨⟨⟨⟨⟨h1, h2⟩, h3⟩, h4⟩, h5⟩, h6⟩, h7⟩ := h
  obtain ⟨C, ec, eX, kin, exc, ra, _, _, _⟩ := o.cls j _ h1
  have names : Names X m (k.cv j) := ⟨gl_of o.hsc h2, (okN_dbg h3).1, .inl (by rw [ec]; exact eX)⟩
  have hj : j < g.nc := by
    rw [← o.ncl]
    exact (List.getElem?_eq_some_iff.mp h1).1
  have nd : X.N.Nodup := by rw [o.hN]; exact o.nd
  refine ps_imp (ps_try_tr (tb := fun W' => tSt k W' (run g bd)) (ts := tSt k W (run g q)) (Wout := W) o.ex0 o.stk o.frm nd (by rw [o.hN]; exact h4) (show X.env.scope.names.lookup n = some .local by rw [o.hsc]; exact cv_local h5) names o.takes
    (fun W' pn xe tk own => hb.pss W' sc _ _ { hK := o.hK, hN := o.hN, nd := o.nd, hsc := o.hsc, kind := o.kind, calm := o.calm, gd := o.gd, room := o.room, takes := tk, own := own, wr := o.wr, bn := o.bn, fq := o.fq, fn := o.fn, glo := o.glo, ncl := o.ncl, htk := o.htk, prr := o.prr, prs := o.prs, sub := o.sub, exm := o.exm, cls := o.cls, ex0 := o.ex0, stk := o.stk, frm := o.frm } h6)
    (fun a pn => by
      have oq : OkQ c g k sc sc (X.suite a pn) := { hK := o.hK, hN := o.hN, nd := o.nd, hsc := o.hsc, kind := o.kind, wr := o.wr, bn := o.bn, fq := o.fq, glo := o.glo, ncl := o.ncl, htk := o.htk, sub := o.sub, exm := o.exm, cls := o.cls }
      rcases Bool.or_eq_true _ _ ▸ h7 with h7 | h7
      · exact quS (X' := X.suite a pn) oq ⟨o.room.dp, o.room.un⟩ q _ h7
      · exact quB (X' := X.suite a pn) oq q _ h7)) fun D σ H ⟨S, ρ, st, hh, z⟩ => ?_
  simp only [run] at z
  refine ⟨S, ρ, st, hh, tO.catch z fun e ρ' σ' H' st' m' z => ?_⟩
  by_cases he : e < g.nc ∧ j < g.nc
  · rw [if_pos he] at z
    refine ⟨g.sub e j, o.exm e j he.1 he.2, fun hs => ⟨rfl, fun a na => ?_⟩, fun hs => ?_⟩
    · rw [if_pos hs] at z
      have t : Same H' (upd H' a (XO (k.cv e) a)) := same_new na
      have st1 := st'.mono t
      have pa := st'.fresh na
      have r : Rep k (reg S ρ' σ' (upd H' a (XO (k.cv e) a))) (.exn e) (.ref a) := by
        show Rep k _ (.exn e) (.ref a)
        simp only [Rep]
        exact ⟨a, rfl, (part_eq pa).trans upd_same⟩
      obtain ⟨s2, m2⟩ := st1.setV r i
      have m3 := Same.trans (part_mono t fun _ _ _ z => z) m2
      have z2 := tO.shift m3 z
      refine ⟨S, _, s2, hh, ?_⟩
      refine tO.go z2 (fun ρ3 σ3 H3 s3 m z => ?_) (fun _ _ z => z) (fun ρ3 σ3 H3 s3 m z => ?_) (fun ρ3 σ3 H3 s3 m z => ?_)
      · obtain ⟨s4, m4⟩ := s3.setN i none
        exact z _ _ s4 m4
      · obtain ⟨s4, m4⟩ := s3.setN i none
        exact z _ _ s4 m4
      · obtain ⟨s4, m4⟩ := s3.setN i none
        exact z _ _ s4 m4
    · rw [if_neg (by rw [hs]; exact Bool.false_ne_true)] at z
      exact z σ' H' st' (Same.refl _)
  · rw [if_neg he] at z; exact z.elim
theorem ss_tryn {bd : S} {j : Nat} {q : S} (hb : SndS c g k bd) : SndS c g k (.tryn bd j q) := by
  refine SndS.one (fun W sc X x o h => ?_) fun _ _ => by unfold chSs; exact Bool.false_ne_true
  unfold chS at h
  split at h <;> try cases h
  rename_i xs m pm y ys ps1 ps2
  simp only [Bool.and_eq_true, decide_eq_true_eq] at h
  obtain ⟨⟨⟨⟨h1, h2⟩, h3⟩, h6⟩, h7⟩ := h
  obtain ⟨C, ec, eX, kin, exc, ra, _, _, _⟩ := o.cls j _ h1
  have names : Names X m (k.cv j) := ⟨gl_of o.hsc h2, (okN_dbg h3).1, .inl (by rw [ec]; exact eX)⟩
  have hj : j < g.nc := by
    rw [← o.ncl]
    exact (List.getElem?_eq_some_iff.mp h1).1
  refine ps_imp (ps_try_only (tb := fun W' => tSt k W' (run g bd)) (ts := fun _ _ _ => tSt k W (run g q)) (Wout := W) o.stk o.frm names o.takes
    (fun W' pn xe tk own => hb.pss W' sc _ _ { hK := o.hK, hN := o.hN, nd := o.nd, hsc := o.hsc, kind := o.kind, calm := o.calm, gd := o.gd, room := o.room, takes := tk, own := own, wr := o.wr, bn := o.bn, fq := o.fq, fn := o.fn, glo := o.glo, ncl := o.ncl, htk := o.htk, prr := o.prr, prs := o.prs, sub := o.sub, exm := o.exm, cls := o.cls, ex0 := o.ex0, stk := o.stk, frm := o.frm } h6)
    (fun a oe cls d pn _ _ => by
      have oq : OkQ c g k sc sc (X.suite a ((a, oe) :: pn)) := { hK := o.hK, hN := o.hN, nd := o.nd, hsc := o.hsc, kind := o.kind, wr := o.wr, bn := o.bn, fq := o.fq, glo := o.glo, ncl := o.ncl, htk := o.htk, sub := o.sub, exm := o.exm, cls := o.cls }
      rcases Bool.or_eq_true _ _ ▸ h7 with h7 | h7
      · exact quS (X' := X.suite a ((a, oe) :: pn)) oq ⟨o.room.dp, o.room.un⟩ q _ h7
      · exact quB (X' := X.suite a ((a, oe) :: pn)) oq q _ h7)) fun D σ H ⟨S, ρ, st, hh, z⟩ => ?_
  simp only [run] at z
  refine ⟨S, ρ, st, hh, tO.catch z fun e ρ' σ' H' st' m' z => ?_⟩
  by_cases he : e < g.nc ∧ j < g.nc
  · rw [if_pos he] at z
    refine ⟨g.sub e j, o.exm e j he.1 he.2, fun hs => fun a na => ?_, fun hs => ?_⟩
    · rw [if_pos hs] at z
      exact ⟨S, _, st', hh, z⟩
    · rw [if_neg (by rw [hs]; exact Bool.false_ne_true)] at z
      exact z σ' H' st' (Same.refl _)
  · rw [if_neg he] at z; exact z.elim
theorem ss_nil : SndS c g k .nil := by
  refine ⟨fun W sc X x o h => ?_, fun W sc X x o h => ?_⟩
  · unfold chS at h; cases h
  · unfold chSs at h
    split at h <;> try cases h
    refine pss_imp pss_nil fun D σ H ⟨S, ρ, st, hh, q⟩ => ?_
    simp only [run] at q
    exact q σ H st (Same.refl _)
theorem ss_frz {i : Nat} : SndS c g k (.frz i) := by
  refine ⟨fun W sc X x o h => ?_, fun W sc X x o h => ?_⟩
  · unfold chS at h; cases h
  · unfold chSs at h; cases h
theorem ss_seq {a r : S} (ha : SndS c g k a) (hr : SndS c g k r) : SndS c g k (.seq a r) := by
  refine ⟨fun W sc X x o h => ?_, fun W sc X x o h => ?_⟩
  · unfold chS at h; cases h
  · unfold chSs at h
    rw [Bool.or_eq_true] at h
    rcases h with h | h
    · split at h <;> try cases h
      rename_i i
      refine pss_imp (hr.pss W sc X x o h) fun D σ H ⟨S, ρ, st, hh, q⟩ => ?_
      simp only [run] at q
      cases e : ρ[i]? with
      | none => rw [e] at q; exact q.elim
      | some u =>
        cases u with
        | none => rw [e] at q; exact q.elim
        | some s =>
          rw [e] at q
          obtain ⟨s1, m1⟩ := st.froze hh e
          exact ⟨S, _, s1, hh, tO.shift m1 q⟩
    · split at h <;> try cases h
      simp only [Bool.and_eq_true] at h
      refine pss_imp (pss_cons (ha.ps W sc X _ o h.1) (hr.pss W sc X _ o h.2)) fun D σ H ⟨S, ρ, st, hh, q⟩ => ?_
      simp only [run] at q
      refine ⟨S, ρ, st, hh, ?_⟩
      exact tO.go q (fun ρ' σ' H' st' m' z => ⟨S, ρ', st', hh, z⟩) (fun _ _ z => z) (fun ρ' σ' H' st' m' z => z σ' H' st' (Same.refl _)) fun ρ' σ' H' st' m' z => z σ' H' st' (Same.refl _)
/-- what is found of a text is what it does -/
theorem soundS (lv : 1 ≤ c.lev) (s : S) : SndS c g k s := by
  induction s with
  | pass => exact ss_pass
  | set i e => exact ss_set lv
  | own i e => exact ss_own lv
  | frz i => exact ss_frz
  | unp t e => exact ss_unp lv
  | par i j a d => exact ss_par lv
  | app i e => exact ss_app lv
  | ext i e => exact ss_ext lv
  | pop j i => exact ss_pop lv
  | popd i => exact ss_popd lv
  | popa i ix => exact ss_popa lv
  | swp i ix iy e => exact ss_swp lv
  | put i ix e => exact ss_put lv
  | pput i ix e => exact ss_pput lv
  | kput i ix e => exact ss_kput lv
  | ins i ix e => exact ss_ins lv
  | expr e => exact ss_expr lv
  | ret e => exact ss_ret lv
  | retm i => exact ss_retm
  | retn => exact ss_retn
  | ifs e a d ha hd => exact ss_ifs lv ha hd
  | whl f e b hb => exact ss_whl lv hb
  | fr t it b hb => exact ss_fr lv hb
  | brk => exact ss_brk
  | cnt => exact ss_cnt
  | raise j => exact ss_raise
  | tryc bd j i q hb _ => exact ss_tryc hb
  | tryn bd j q hb _ => exact ss_tryn hb
  | nil => exact ss_nil
  | seq a r ha hr => exact ss_seq ha hr
end
end FS

set_option maxRecDepth 100000
set_option autoImplicit false
set_option maxHeartbeats 4000000
/-! A def that is read keeps what its meaning promises; a law's end. -/
namespace FS
open PySem PySem.Spec L2
open PyProof.Rows (envOfC)

/-- a def that the module has by this name promises this meaning -/
def Fits (P : Program) (w : World) (mg : Str → Option Value) (base : Heap) (k : Kx) (lev : Nat) (x : Str) (m : List PD → R Sl) : Prop :=
  ∃ f fd ps, FnOk P w k.K mg base (L2.CX P w) lev f fd ps (spOf k ps.length m) ∧ mg x = some (.ref f) ∧ PySem.W.keepIn k.K (.ref f) = true ∧ Binds k.K fd ps [] ∧ ∀ ds, m ds ≠ .st → ds.length = ps.length
theorem Fits.up {P : Program} {w : World} {mg : Str → Option Value} {base : Heap} {k : Kx} {i j : Nat} {x : Str} {m : List PD → R Sl} (h : Fits P w mg base k i x m) (l : i ≤ j) : Fits P w mg base k j x m := by
  obtain ⟨f, fd, ps, a, b⟩ := h
  exact ⟨f, fd, ps, a.mono l, b⟩
def FitsAll (P : Program) (w : World) (mg : Str → Option Value) (base : Heap) (k : Kx) (lev : Nat) : List Str → List (List PD → R Sl) → Prop
  | [], [] => True
  | x :: xs, m :: ms => Fits P w mg base k lev x m ∧ FitsAll P w mg base k lev xs ms
  | _, _ => False
theorem FitsAll.at {P : Program} {w : World} {mg : Str → Option Value} {base : Heap} {k : Kx} {lev : Nat} : ∀ {xs : List Str} {ms : List (List PD → R Sl)} {i : Nat} {x : Str}, FitsAll P w mg base k lev xs ms → xs[i]? = some x → Fits P w mg base k lev x ((ms[i]?).getD fun _ => .st)
  | [], [], i, x, _, e => by simp at e
  | y :: xs, m :: ms, 0, x, h, e => by
    simp at e; subst e
    exact h.1
  | y :: xs, m :: ms, i + 1, x, h, e => by
    have := FitsAll.at (i := i) h.2 (by simpa using e)
    simpa using this
  | [], _ :: _, _, _, h, _ => h.elim
  | _ :: _, [], _, _, h, _ => h.elim

/-- .. that raises nothing, where an exception is handled, too -/
def FitsQ (P : Program) (w : World) (mg : Str → Option Value) (base : Heap) (k : Kx) (lev : Nat) (x : Str) (m : List PD → R Sl) : Prop :=
  ∃ f fd ps, FnQ P w k.K mg base lev f fd ps (spOf k ps.length m) ∧ mg x = some (.ref f) ∧ PySem.W.keepIn k.K (.ref f) = true ∧ Binds k.K fd ps [] ∧ ∀ ds, m ds ≠ .st → ds.length = ps.length
theorem FitsQ.up {P : Program} {w : World} {mg : Str → Option Value} {base : Heap} {k : Kx} {i j : Nat} {x : Str} {m : List PD → R Sl} (h : FitsQ P w mg base k i x m) (l : i ≤ j) : FitsQ P w mg base k j x m := by
  obtain ⟨f, fd, ps, a, b⟩ := h
  exact ⟨f, fd, ps, a.mono l, b⟩
/-- what the module tells -/
structure Md (P : Program) (w : World) (mg : Str → Option Value) (base : Heap) (c : Cc) (g : Gs) (k : Kx) : Prop where
  bn : ∀ x ∈ c.bn, mg x = none
  fn : ∀ (i : Nat) (x : Str), c.fns[i]? = some x → Fits P w mg base k c.lev x (g.fn i)
  fq : ∀ (i : Nat) (x : Str), c.fns[i]? = some x → x ∈ c.fnq → FitsQ P w mg base k c.lev x (g.fn i)
  glo : ∀ (i : Nat) (x : Str), c.glos[i]? = some x → ∃ v u, mg x = some u ∧ RelV v u ∧ Rep k (fun _ => none) (g.glo i) v
  ncl : c.cls.length = g.nc
  htk : k.tk = g.tk
  prr : ∀ (ns : List Int), k.P ns → ∀ (j : Int) (m : Option Int), g.pr j = some m → ∃ n, atI (ns.map V.int) j = some (.int n) ∧ inR m n
  prs : ∀ (ns : List Int), k.P ns → ∀ (j n : Int) (m : Option Int), g.pr j = some m → inR m n → ∃ i, ixN ns.length j = some i ∧ k.P (ns.set i n)
  sub : ∀ (i j : Nat) (x y : Str), c.cls[i]? = some x → c.cls[j]? = some y → PySem.W.kitOne k.K (k.cv i) (k.cv j) = some (g.sub i j)
  exm : ∀ (i j : Nat), i < g.nc → j < g.nc → PySem.W.exmOne k.K (k.cv i) (k.cv j) = some (g.sub i j)
  cls : ∀ (i : Nat) (x : Str), c.cls[i]? = some x → ∃ C, k.cv i = .ref C ∧ mg x = some (.ref C) ∧ PySem.W.keepIn k.K (.ref C) = true ∧ PySem.W.excIn k.K C PySem.HandSPX.veTail "ValueError.__new__" = true ∧
    PySem.W.subIn k.K (.ref C) (.type "BaseException") = some true ∧ PySem.W.typeIn k.K (.ref C) = some (.type "type") ∧
    (∀ n ∈ tyNs, PySem.W.kitOne k.K (.type n) (.ref C) = some false) ∧ ExcC k.K C ∧ PySem.W.kitOne k.K (.ref C) (.type "ValueError") = some true

section
variable {P : Program} {w : World} {mg : Str → Option Value} {base : Heap} {c : Cc} {g : Gs} {k : Kx} {ps : List Str} {scope : Scope}
theorem Md.ok (M : Md P w mg base c g k) (S : FnScope c.N ps scope) {qual : Str} {f : Addr} {cdv : Value} {A : Around} {outer : List Env} {s : Shared} {H : Hp} {E : XK} (hgd : c.gd = true → A.guards = some []) (hr : Room c.lev (A.deeper (envOfC qual scope s.heap.objs.size f cdv))) :
    OkT c g k (fun cls d _ H => E cls d H) scope (cxOf (L2.CX P w) P w k.K mg base c.N qual scope f cdv A outer s H E) where
  hK := rfl
  hN := rfl
  nd := S.nd
  hsc := rfl
  kind := S.kind
  calm := rfl
  gd := fun z => by
    show (A.deeper _).guards = _
    first | exact hgd z | (simp [Around.deeper]; exact hgd z)
  room := hr
  takes := takes_of rfl rfl rfl rfl
  own := passes_of rfl
  wr := fun x h => ⟨loc_of h, .inl rfl⟩
  bn := M.bn
  fn := fun i x e => by
    obtain ⟨f, fd, ps, a⟩ := M.fn i x e
    exact ⟨f, fd, ps, a⟩
  fq := fun i x e h => by
    obtain ⟨f, fd, ps, a⟩ := M.fq i x e h
    exact ⟨f, fd, ps, a⟩
  glo := M.glo
  ncl := M.ncl
  htk := M.htk
  prr := M.prr
  prs := M.prs
  sub := M.sub
  exm := M.exm
  ex0 := rfl
  stk := rfl
  frm := rfl
  cls := fun i x e => by
    obtain ⟨C, a1, a2, a3, a4, a5, a6, a7, a8, a9⟩ := M.cls i x e
    exact ⟨C, a1, a2, a3, a4, raises_own a5 a6, a7, a8, a9⟩

theorem start_ok {n : Nat} {ds : List PD} {p : Addr → Prop} {H : Hp} {N : List Str} {vs : List V} (r : Reps k (part p H) ds vs) (hn : N.length = n) : StOk k ⟨H, p, fun _ => False⟩ (start0 n ds) (L2.start N vs) H := by
  have hl := r.length
  have get : ∀ (i : Nat) (s : Sl), (start0 n ds)[i]? = some (some s) → ∃ d, s = .v d ∧ ds[i]? = some d := fun i s e => by
    unfold start0 at e
    by_cases hi : i < ds.length
    · rw [List.getElem?_append_left (by simpa using hi)] at e
      rw [List.getElem?_map] at e
      cases q : ds[i]? with
      | none => rw [q] at e; cases e
      | some d => rw [q] at e; cases e; exact ⟨d, rfl, rfl⟩
    · rw [List.getElem?_append_right (by simpa using hi)] at e
      rw [List.getElem?_replicate] at e
      split at e <;> cases e
  have no : ∀ a, ¬ ownA (start0 n ds) (L2.start N vs) a := fun a ⟨i, s, e, o, _⟩ => by
    obtain ⟨d, rfl, _⟩ := get i s e
    cases o
  refine ⟨?_, Same.refl _, fun i s e => ?_, fun a o => (no a o).elim, fun _ z => z.elim, fun i j s t a e o => ?_⟩
  · unfold L2.start start0
    simp [hl, hn]
  · obtain ⟨d, rfl, e1⟩ := get i s e
    obtain ⟨v, e2, rv⟩ := r.get e1
    refine ⟨v, ?_, Rep.mono (part_mono (Same.refl _) fun a _ _ z => ⟨.inl z, id, no a⟩) rv⟩
    unfold L2.start
    have hi : i < vs.length := (List.getElem?_eq_some_iff.mp e2).1
    rw [List.getElem?_append_left (by simpa using hi), List.getElem?_map, e2]
    rfl
  · obtain ⟨d, rfl, _⟩ := get i s e
    cases o
theorem res_tO {E : XK} {p : Addr → Prop} {H : Hp} {Q : VK} {D : Ends} {ρ : En} {σ : St} {o : Out} (dn : D.nx = fun _ H' => Q .non H') (dr : D.rt = Q) (fr : ∀ a, H a = none → p a)
    (h : tR k (fun cls d _ H' => E cls d H') [] H o.res fun s => ∀ v H', Same H H' → ResOk k p H H' s v → Q v H') : tO k (fun cls d _ H' => E cls d H') ⟨H, p, fun _ => False⟩ ρ D σ H o := by
  induction o with
  | nx ρ' =>
    refine fun σ' H' st m => ?_
    rw [dn]
    refine h .non H' st.same ?_
    show Rep k (part p H') .non .non
    exact Rep.non
  | rt s ρ' =>
    refine fun v σ' H1 H' st t m r => ?_
    rw [dr]
    refine h v H' (st.same.trans t) (ResOk.wider (fun a z => ?_) r)
    rcases z with z | z
    · exact z
    · exact fr a z
  | bk ρ' => exact h.elim
  | ct ρ' => exact h.elim
  | ex c ρ' => exact fun σ' H' st m => h H' st.same
  | st => exact h.elim
  | ask m f ih => exact fun j h0 => ih j (h j h0)
/-- THE RULE for a def -/
theorem def_ok {x qual : Str} {params : Arguments} {body : List Stmt} {f : Addr} {fd : FuncData} {b : S} (M : Md P w mg base c g k) (F : FunD k.K x qual params body scope [] [] f fd) (Sc : FnScope c.N ps scope) (lv : 1 ≤ c.lev)
    (ch : chSs c scope b body = true) (h0 : c.gd = false := by rfl) : FnOk P w k.K mg base (L2.CX P w) (c.lev + 1) f fd ps (spOf k ps.length (den g c.N.length ps.length b)) := by
  refine F.ok Sc (fun vs H Q E h => h.1) fun cdv A outer s H vs Q E hr h => ⟨tSt k (fun cls d _ H => E cls d H) (run g b), (soundS lv b).pss _ _ _ _ (M.ok Sc (fun z => by rw [h0] at z; cases z) hr) ch, ?_⟩
  obtain ⟨hl, ds, p, rp, fr, q⟩ := h
  have hd : ds.length = ps.length := by rw [← rp.length]; exact hl
  unfold den at q
  rw [if_pos hd] at q
  exact ⟨⟨H, p, fun _ => False⟩, _, start_ok rp rfl, fun _ z => z, res_tO rfl rfl fr q⟩
/-- a law's def: called where no text is being made -/
structure FnG (P : Program) (w : World) (K : PySem.W.Frag) (mg : Str → Option Value) (base : Heap) (lev : Nat) (f : Addr) (fd : FuncData) (ps : List Str) (sp : Sp) : Prop where
  run : ∀ (A : Around) (outer : List Env) (s : Shared) (H : Hp) (args : Args) (us : List Value) (vs : List V) (Q : VK) (E : XK), Room lev A → A.guards = some [] → Env0 P w K mg base A outer s H → BindsTo s fd args (ps.zip us) → Vals vs us → sp vs H Q E →
    codeAny (model P w) A (.call (.ref f) args) (CR (L2.CX P w) outer P w H s Q E) s
/-- THE RULE for a law's def that makes texts of data -/
theorem def_okG {x qual : Str} {params : Arguments} {body : List Stmt} {f : Addr} {fd : FuncData} {b : S} (M : Md P w mg base c g k) (F : FunD k.K x qual params body scope [] [] f fd) (Sc : FnScope c.N ps scope) (lv : 1 ≤ c.lev)
    (ch : chSs c scope b body = true) : FnG P w k.K mg base (c.lev + 1) f fd ps (spOf k ps.length (den g c.N.length ps.length b)) := by
  obtain ⟨oc, od, dV, kV, doc, pm, an, cdv, ct, osl, rfl, lk, hcd, _, _⟩ := F.ex
  refine ⟨fun A outer s H args us vs Q E hr hgd e0 hb r hsp => ?_⟩
  obtain ⟨hl, ds, p, rp, fr, q⟩ := hsp
  have KX : k.K.In s.heap := e0.mod.kin.keeps fun b o e => (e0.bs b o e).1
  have kinds : ∀ y ∈ ps.zip us, scope.names.lookup y.1 = some .local ∨ (scope.names.lookup y.1 = some .cell ∧ ((cellsFrom (s.heap.objs.size + 1) scope.names []).lookup y.1).isSome = true) := fun y hy => by
    rcases Sc.par y.1 (List.of_mem_zip (a := y.1) (b := y.2) hy).1 with z | z
    · exact .inl z
    · exact .inr ⟨z, PySem.W.cellsFrom_some _ _ _ (.inl z)⟩
  refine codeAny_call_function hr.depth (KX _ _ lk) rfl Sc.co Sc.gen rfl (PySem.W.codeRec_of KX hcd) (hb _ _ _ _ (wpAny_newFunctionEnv_cells Sc.kind kinds fun env he s1 y => ?_))
  subst he
  refine ⟨(e0.mod.nolimit.keeps fun b o e => (e0.bs b o e).1).keeps y.toInCall.keep, codeAny_func ?_⟩
  have hd : ds.length = ps.length := by rw [← rp.length]; exact hl
  unfold den at q
  rw [if_pos hd] at q
  have run := ((soundS lv b).pss _ _ _ _ (Md.ok M Sc (qual := qual) (f := f) (cdv := cdv) (A := A) (outer := outer) (s := s) (H := H) (E := E) (fun _ => hgd) (hr.deeper _)) ch).run [] s1 (L2.start c.N vs) H { nx := fun _ H' => Q .non H', rt := Q } (inv_start Sc hr.hd e0 hl r y)
    ⟨⟨H, p, fun _ => False⟩, _, start_ok rp rfl, fun _ z => z, res_tO rfl rfl fr q⟩
  refine wpAny_mono run (fun fl s' hs => ?_) fun e s' hs => hs
  cases fl with
  | ret u =>
    obtain ⟨v, σ', H', J, rv, z⟩ := hs
    exact ⟨v, H', J.os, J.bare, J.base, J.hok, rv, z⟩
  | next =>
    obtain ⟨σ', H', J, z⟩ := hs
    exact ⟨V.non, H', J.os, J.bare, J.base, J.hok, rfl, z⟩
  | brk => obtain ⟨_, _, _, z⟩ := hs; exact z.elim
  | cont => obtain ⟨_, _, _, z⟩ := hs; exact z.elim
theorem den_st {n m : Nat} {b : S} (ds : List PD) (h : den g n m b ds ≠ .st) : ds.length = m := by
  unfold den at h
  split at h
  · assumption
  · exact absurd rfl h
theorem def_fits {x qual : Str} {params : Arguments} {body : List Stmt} {f : Addr} {fd : FuncData} {b : S} (M : Md P w mg base c g k) (F : FunD k.K x qual params body scope [] [] f fd) (Sc : FnScope c.N ps scope) (lv : 1 ≤ c.lev)
    (ch : chSs c scope b body = true) (hg : mg x = some (.ref f)) (hb : Binds k.K fd ps []) (h0 : c.gd = false := by rfl) : Fits P w mg base k (c.lev + 1) x (den g c.N.length ps.length b) :=
  ⟨f, fd, ps, def_ok M F Sc lv ch h0, hg, F.kp, hb, fun ds h => den_st ds h⟩
theorem Md.okQ (M : Md P w mg base c g k) (S : FnScope c.N ps scope) {qual : Str} {f : Addr} {cdv : Value} {A : Around} {outer : List Env} {s : Shared} {H : Hp} {E : XK} {p : Addr × Obj} :
    OkQ c g k scope scope (L2H.cxH (L2.CX P w) P w k.K mg base c.N qual scope f cdv A outer s H E p) where
  hK := rfl
  hN := rfl
  nd := S.nd
  hsc := rfl
  kind := S.kind
  wr := fun x h => ⟨loc_of h, .inl rfl⟩
  bn := M.bn
  fq := fun i x e h => by
    obtain ⟨f, fd, ps, a⟩ := M.fq i x e h
    exact ⟨f, fd, ps, a⟩
  glo := M.glo
  ncl := M.ncl
  htk := M.htk
  sub := M.sub
  exm := M.exm
  cls := fun i x e => by
    obtain ⟨C, a1, a2, a3, a4, a5, a6, a7, a8, a9⟩ := M.cls i x e
    exact ⟨C, a1, a2, a3, a4, raises_own a5 a6, a7, a8, a9⟩
theorem no_frame {h base : Heap} {a : Addr} {o : Obj} (hb : base.get? a = some o) : ∀ {l : List Env}, h.FunFrames base l → a ∉ frs l
  | [], _, hm => by cases hm
  | e :: l, hf, hm => by
    obtain ⟨_, ⟨L, _, q1, q2, _⟩, hr⟩ := hf
    unfold frs at hm
    rw [List.filterMap_cons, q1] at hm
    rcases List.mem_cons.mp hm with z | z
    · rw [z, q2] at hb; cases hb
    · exact no_frame hb hr z
/-- THE RULE for a def that raises nothing -/
theorem quiet_ok {x qual : Str} {params : Arguments} {body : List Stmt} {f : Addr} {fd : FuncData} {b : S} (M : Md P w mg base c g k) (F : FunD k.K x qual params body scope [] [] f fd) (Sc : FnScope c.N ps scope) (n : Nat)
    (ch : chB c scope b body = true) : FnQ P w k.K mg base (n + 1) f fd ps (spOf k ps.length (den g c.N.length ps.length b)) := by
  obtain ⟨oc, od, dV, kV, doc, pm, an, cdv, ct, osl, rfl, lk, hcd, _, _⟩ := F.ex
  refine ⟨fun vs H Q E h => h.1, fun A outer s H args us vs Q E hr e0 hb r hsp => ?_⟩
  obtain ⟨hl, ds, p, rp, fr, q⟩ := hsp
  have KX : k.K.In s.heap := e0.mod.kin.keeps fun b o e => (e0.bs b o e).1
  have bf := e0.mod.kin _ _ lk
  have pin : L2H.PinOk outer H s (f, _) := ⟨KX _ _ lk, (e0.bs _ _ bf).2, no_frame bf e0.funs, fun v e => by cases e⟩
  have kinds : ∀ y ∈ ps.zip us, scope.names.lookup y.1 = some .local ∨ (scope.names.lookup y.1 = some .cell ∧ ((cellsFrom (s.heap.objs.size + 1) scope.names []).lookup y.1).isSome = true) := fun y hy => by
    rcases Sc.par y.1 (List.of_mem_zip (a := y.1) (b := y.2) hy).1 with z | z
    · exact .inl z
    · exact .inr ⟨z, PySem.W.cellsFrom_some _ _ _ (.inl z)⟩
  refine codeAny_call_function hr.depth (KX _ _ lk) rfl Sc.co Sc.gen rfl (PySem.W.codeRec_of KX hcd) (hb _ _ _ _ (wpAny_newFunctionEnv_cells Sc.kind kinds fun env he s1 y => ?_))
  subst he
  refine ⟨(e0.mod.nolimit.keeps fun b o e => (e0.bs b o e).1).keeps y.toInCall.keep, codeAny_func ?_⟩
  have hd : ds.length = ps.length := by rw [← rp.length]; exact hl
  unfold den at q
  rw [if_pos hd] at q
  have run := (quB (Md.okQ M Sc (qual := qual) (f := f) (cdv := cdv) (A := A) (outer := outer) (s := s) (H := H) (E := E) (p := (f, _))) (W := fun cls d _ H => E cls d H) b body ch).run [] s1 (L2.start c.N vs) H { nx := fun _ H' => Q .non H', rt := Q } (L2H.inv_startH Sc pin e0 hl r y)
    ⟨⟨H, p, fun _ => False⟩, _, start_ok rp rfl, fun _ z => z, res_tO rfl rfl fr q⟩
  refine wpAny_mono run (fun fl s' hs => ?_) fun e s' hs => hs
  cases fl with
  | ret u =>
    obtain ⟨v, σ', H', J, rv, z⟩ := hs
    exact ⟨v, H', J.os, J.bare, J.base, J.hok, rv, z⟩
  | next =>
    obtain ⟨σ', H', J, z⟩ := hs
    exact ⟨V.non, H', J.os, J.bare, J.base, J.hok, rfl, z⟩
  | brk => obtain ⟨_, _, _, z⟩ := hs; exact z.elim
  | cont => obtain ⟨_, _, _, z⟩ := hs; exact z.elim
theorem quiet_fits {x qual : Str} {params : Arguments} {body : List Stmt} {f : Addr} {fd : FuncData} {b : S} (M : Md P w mg base c g k) (F : FunD k.K x qual params body scope [] [] f fd) (Sc : FnScope c.N ps scope) (n : Nat)
    (ch : chB c scope b body = true) (hg : mg x = some (.ref f)) (hb : Binds k.K fd ps []) : FitsQ P w mg base k (n + 1) x (den g c.N.length ps.length b) :=
  ⟨f, fd, ps, quiet_ok M F Sc n ch, hg, F.kp, hb, fun ds h => den_st ds h⟩
end
/-- of which nothing is told -/
theorem st_fits {P : Program} {w : World} {mg : Str → Option Value} {base : Heap} {k : Kx} {scope : Scope} {N ps : List Str} {n : Nat} {x qual : Str} {params : Arguments} {body : List Stmt} {f : Addr} {fd : FuncData} (F : FunD k.K x qual params body scope [] [] f fd) (Sc : FnScope N ps scope)
    (hg : mg x = some (.ref f)) (hb : Binds k.K fd ps []) : Fits P w mg base k (n + 1) x (fun _ => .st) :=
  ⟨f, fd, ps, F.ok Sc (fun vs H Q E h => h.1) (fun cdv A outer s H vs Q E hr h => by
    obtain ⟨hl, ds, p, rp, fr, q⟩ := h
    exact q.elim), hg, F.kp, hb, fun ds h => absurd rfl h⟩

/-- whatever is drawn, it tells such a thing -/
def R.all0 {α : Type} : R α → (α → Prop) → Prop
  | .ok a, p => p a
  | .ex _, _ => False
  | .st, _ => False
  | .ask m r, p => ∀ i, inR m i → (r i).all0 p
@[irreducible] def R.All {α : Type} (r : R α) (p : α → Prop) : Prop := r.all0 p
@[simp] theorem R.all_ok {α : Type} {a : α} {p : α → Prop} : (R.ok a).All p ↔ p a := by
  unfold R.All
  exact Iff.rfl
@[simp] theorem R.all_st {α : Type} {p : α → Prop} : (R.st : R α).All p ↔ False := by
  unfold R.All
  exact Iff.rfl
@[simp] theorem R.all_ex {α : Type} {c : Nat} {p : α → Prop} : (R.ex c : R α).All p ↔ False := by
  unfold R.All
  exact Iff.rfl
theorem R.all_ask {α : Type} {m : Option Int} {r : Int → R α} {p : α → Prop} : (R.ask m r).All p ↔ ∀ i, inR m i → (r i).All p := by
  unfold R.All
  exact Iff.rfl
theorem R.All.tR {α : Type} {k : Kx} {W : WX} {σ : St} {H : Hp} {r : R α} {p q : α → Prop} (h : r.All p) (i : ∀ a, p a → q a) : tR k W σ H r q := by
  induction r with
  | ok a => exact i a (R.all_ok.mp h)
  | ex c => exact (R.all_ex.mp h).elim
  | st => exact (R.all_st.mp h).elim
  | ask m r ih => exact fun j h0 => ih j (R.all_ask.mp h j h0)
/-- a law's promise: the script told -/
theorem law_sp {k : Kx} {m : List PD → R Sl} {H : Hp} {a : Addr} {ns : List Int} (hS : Ls k.K H a (ns.map V.int)) (h : (m [.lst (ns.map PD.int)]).All fun s => s = .v (.bl true)) :
    spOf k 1 m [.ref a] H (fun v _ => v = .bl true) fun _ _ _ => False := by
  refine ⟨rfl, [.lst (ns.map PD.int)], fun _ => True, ?_, fun _ _ => trivial, h.tR fun s e v H' t r => ?_⟩
  · exact Reps.cons (Rep.lst (hS.mono fun b u e => (part_eq (p := fun _ => True) trivial).trans e) (Reps.of_ints ns)) Reps.nil
  · subst e
    exact Rep.ofBl (k := k) (G := part (fun _ => True) H') r
/-- the end of a law's walk -/
theorem walk_all {l : PySem.W.OpenLaw} {n lev : Nat} {q : Program} {loose : List Str} {XP : (Str → Option Value) → Heap → Prop} {YP : World → Heap → Prop} {d : DefRec} {x : Str} {m : List PD → R Sl}
    (hn : l.most = some n) (hn2 : n ≤ sizeLine) (hdf : d.params.defaults = []) (hr : Room lev callerA)
    (F : ∀ (w : World) (mg : Str → Option Value) (fa : Addr) (h : Heap), YP w h → h.Ns mainGlobals mg → mg d.name = some (.ref fa) →
      ∃ (k : Kx) (fd : FuncData), k.K.In h ∧ (∀ (s : Shared) (u : Value), BindsTo s fd ⟨[u], []⟩ [(x, u)]) ∧ ∀ base : Heap, k.K.In base → base.Ns mainGlobals mg → FnOk l.prog w k.K mg base (L2.CX l.prog w) lev fa fd [x] (spOf k 1 m))
    (law : ∀ ns : List Int, ns.length ≤ n → (∀ z ∈ ns, Builtin.Int.intBits z ≤ 1048576) → (m [.lst (ns.map PD.int)]).All fun s => s = .v (.bl true)) :
    PySem.W.WalkO q loose XP YP l.row.toRowW d [] (fun f vs => PySem.call f vs) := by
  refine Att.attach_callB hn hdf fun w s₀ s₁ mg mb fa o pm cd doc a vs ns G Y ho hd hcd hmg hobj hints hlen hbits hg => ?_
  obtain ⟨k, fd, KX, hb, hF⟩ := F w mg fa _ Y G.T.g hmg
  refine law_call KX G.T.g G.T.b G.T.builtins G.T.nolimit hg hobj hints (Nat.le_trans hlen hn2) hr hF hb (fun H hO hS => law_sp ?_ (law ns hlen hbits)) fun H e s' hx => ?_
  · rcases hS with hS | ⟨o', its, n', h1, h2, h3, h4, h5, h6⟩
    · exact .inl hS
    · have e := KX a o' h1
      rw [hobj] at e
      cases e
      cases h4
      exact .inr ⟨_, _, h1, h5, h6⟩
  · obtain ⟨_, _, _, _, _, _, _, _, _, _, _, _, z⟩ := hx
    exact z
open PyProof.Rows in
/-- a law's def, called at the law's end -/
theorem law_endG {P : Program} {w : World} {K : PySem.W.Frag} {mg mb : Str → Option Value} {lev : Nat} {fa a : Addr} {fd : FuncData} {x : Str} {sp : Sp} {s₁ : Shared} {vs : List Value} {ns : List Int}
    (KX : K.In s₁.heap) (hns : s₁.heap.Ns mainGlobals mg) (hb : s₁.heap.Ns builtinsNs mb) (hbb : ∀ x : Str, x ≠ "__name__" → mb x = bootBuiltins x) (hlim : s₁.heap.NoLimit) (hg : s₁.gens = #[])
    (ha : s₁.heap.get? a = some { cls := .type "list", data := .seq vs.toArray }) (hi : IntsAre vs ns) (hl : ns.length ≤ sizeLine) (hr : Room lev callerA)
    (F : ∀ base : Heap, K.In base → base.Ns mainGlobals mg → FnG P w K mg base lev fa fd [x] sp) (hbind : ∀ (s : Shared) (u : Value), BindsTo s fd ⟨[u], []⟩ [(x, u)])
    (hsp : ∀ H : Hp, Only H → SqL K H a (ns.map V.int) → sp [.ref a] H (fun v _ => v = .bl true) fun _ _ _ => False)
    (hCX : ∀ H e s', L2.CX P w [] H s₁ (fun _ _ _ => False) e s' → False) :
    codeAny (model P w) callerA (.call (.ref fa) ⟨[.ref a], []⟩) (fun r s' => r = .ok (.ret (.bool true)) ∧ OldK s₁.heap s'.heap ∧ s'.os = s₁.os ∧ AllBare s'.gens) s₁ := by
  have rv := vals_ints hi
  have go : ∀ H : Hp, Only H → SqL K H a (ns.map V.int) → HOk P w H s₁.heap → (∀ b, H b ≠ none → b = a) → (H a ≠ none → K.lookup a = none) →
      codeAny (model P w) callerA (.call (.ref fa) ⟨[.ref a], []⟩) (fun r s' => r = .ok (.ret (.bool true)) ∧ OldK s₁.heap s'.heap ∧ s'.os = s₁.os ∧ AllBare s'.gens) s₁ := by
    intro H hO hS hok hA hK
    have at_a : ∀ {b : Addr} {u : HO}, H b = some u → b = a := fun {b u} q => hA b (by rw [q]; exact Option.some_ne_none u)
    have free : ∀ {b : Addr} {o : Obj} {es : Array DictEntry} {ep : Nat}, s₁.heap.get? b = some o → o.data = .dict es ep → H b = none := fun {b o es ep} e d => by
      cases q : H b with
      | none => rfl
      | some u =>
        cases at_a q
        rw [ha] at e
        cases e
        exact absurd (show Data.seq vs.toArray _ = Data.dict es ep from d) (fun z => by cases z)
    have ns_in : ∀ {b : Addr} {m : Str → Option Value}, s₁.heap.Ns b m → (hidT s₁.heap H).Ns b m := fun {b m} ⟨o, es, ep, e, d, r⟩ => ⟨o, es, ep, hidT_get e (free e d), d, r⟩
    have kin : K.In (hidT s₁.heap H) := fun b o e => hidT_get (KX b o e) (by
      cases q : H b with
      | none => rfl
      | some u =>
        cases at_a q
        rw [hK (by rw [q]; exact Option.some_ne_none u)] at e
        cases e)
    have e0 : Env0 P w K mg (hidT s₁.heap H) callerA [] s₁ H :=
      ⟨rfl, ⟨kin, ns_in hns, ⟨mb, ns_in hb, hbb⟩, let ⟨mc, h1, h2⟩ := hlim; ⟨mc, ns_in h1, h2⟩⟩, fun b o e => of_hidT e, Nat.le_of_eq (hidT_size _ _), trivial, fun b hb => (List.not_mem_nil hb).elim, hok, .of_eq hg⟩
    refine codeAny_mono ((F _ kin (ns_in hns)).run callerA [] s₁ H ⟨[.ref a], []⟩ [.ref a] [.ref a] _ _ hr rfl e0 (hbind s₁ (.ref a)) (.cons rfl .nil) (hsp H hO hS)) fun r s' h => ?_
    match r, h with
    | .error e, h => exact (hCX H e s' h).elim
    | .ok .next, h => exact False.elim h
    | .ok .brk, h => exact False.elim h
    | .ok .cont, h => exact False.elim h
    | .ok (.ret u), ⟨v, H', os, bare, un, hok', r', q⟩ =>
      cases (show v = .bl true from q)
      cases (show u = Value.bool true from r')
      refine ⟨rfl, OldK.of_keep fun b o e => ?_, os, bare⟩
      cases q : H b with
      | none => exact un.keep b o e q (List.not_mem_nil) (List.not_mem_nil)
      | some u =>
        rcases hO b with z | ⟨ob, xs, z⟩
        · rw [q] at z; cases z
        · obtain ⟨e1, _⟩ := hok b _ z
          obtain ⟨e2, _⟩ := hok' b _ (un.frzs b ob _ z)
          rw [e] at e1; cases e1
          exact e2
  cases hk : K.lookup a with
  | some o =>
    have e := KX a o hk
    rw [ha] at e
    cases e
    exact go (fun _ => none) (fun _ => .inl rfl) (.inr ⟨_, vs.toArray, _, hk, rfl, rfl, rfl, by rw [List.size_toArray, hi.length]; exact hl, by simpa using rv⟩) (fun b u z => by cases (show (none : Option HO) = some u from z)) (fun b z => absurd rfl z) fun z => absurd rfl z
  | none =>
    have here : ∀ {b : Addr}, (if b = a then some (HO.frz { cls := .type "list", data := .seq vs.toArray } (.lst (ns.map V.int))) else none) ≠ none → b = a := fun {b} z => by
      by_cases hb : b = a
      · exact hb
      · exact absurd (if_neg hb) z
    refine go (fun b => if b = a then some (.frz { cls := .type "list", data := .seq vs.toArray } (.lst (ns.map V.int))) else none) (fun b => ?_) (.inl (.inr ⟨{ cls := .type "list", data := .seq vs.toArray }, if_pos rfl⟩)) (fun b u z => ?_) (fun b z => here z) fun _ => hk
    · by_cases hb : b = a
      · exact .inr ⟨_, _, if_pos hb⟩
      · exact .inl (if_neg hb)
    · cases here (b := b) (by rw [show (if b = a then some (HO.frz { cls := .type "list", data := .seq vs.toArray } (.lst (ns.map V.int))) else none) = some u from z]; exact Option.some_ne_none u)
      cases (if_pos rfl).symm.trans z
      exact ⟨ha, by rw [List.length_map]; exact hl, vs, _, rv, ha⟩
/-- the end of a law's walk, whose def makes texts of data -/
theorem walk_allG {l : PySem.W.OpenLaw} {n lev : Nat} {q : Program} {loose : List Str} {XP : (Str → Option Value) → Heap → Prop} {YP : World → Heap → Prop} {d : DefRec} {x : Str} {m : List PD → R Sl}
    (hn : l.most = some n) (hn2 : n ≤ sizeLine) (hdf : d.params.defaults = []) (hr : Room lev callerA)
    (F : ∀ (w : World) (mg : Str → Option Value) (fa : Addr) (h : Heap), YP w h → h.Ns mainGlobals mg → mg d.name = some (.ref fa) →
      ∃ (k : Kx) (fd : FuncData), k.K.In h ∧ (∀ (s : Shared) (u : Value), BindsTo s fd ⟨[u], []⟩ [(x, u)]) ∧ ∀ base : Heap, k.K.In base → base.Ns mainGlobals mg → FnG l.prog w k.K mg base lev fa fd [x] (spOf k 1 m))
    (law : ∀ ns : List Int, ns.length ≤ n → (∀ z ∈ ns, Builtin.Int.intBits z ≤ 1048576) → (m [.lst (ns.map PD.int)]).All fun s => s = .v (.bl true)) :
    PySem.W.WalkO q loose XP YP l.row.toRowW d [] (fun f vs => PySem.call f vs) := by
  refine Att.attach_callB hn hdf fun w s₀ s₁ mg mb fa o pm cd doc a vs ns G Y ho hd hcd hmg hobj hints hlen hbits hg => ?_
  obtain ⟨k, fd, KX, hb, hF⟩ := F w mg fa _ Y G.T.g hmg
  refine law_endG KX G.T.g G.T.b G.T.builtins G.T.nolimit hg hobj hints (Nat.le_trans hlen hn2) hr hF hb (fun H hO hS => law_sp ?_ (law ns hlen hbits)) fun H e s' hx => ?_
  · rcases hS with hS | ⟨o', its, n', h1, h2, h3, h4, h5, h6⟩
    · exact .inl hS
    · have e := KX a o' h1
      rw [hobj] at e
      cases e
      cases h4
      exact .inr ⟨_, _, h1, h5, h6⟩
  · obtain ⟨_, _, _, _, _, _, _, _, _, _, _, _, z⟩ := hx
    exact z
end FS

set_option maxRecDepth 100000
set_option autoImplicit false
set_option maxHeartbeats 4000000
/-! Plain law: what a meaning tells, whatever is drawn. -/
namespace FS
open PySem PySem.Spec L2
theorem R.All.mono {α : Type} {r : R α} {p q : α → Prop} (h : r.All p) (i : ∀ a, p a → q a) : r.All q := by
  induction r with
  | ok a => exact R.all_ok.mpr (i a (R.all_ok.mp h))
  | ex c => exact (R.all_ex.mp h).elim
  | st => exact (R.all_st.mp h).elim
  | ask m k ih => exact R.all_ask.mpr fun j h0 => ih j (R.all_ask.mp h j h0)
theorem R.all_bind {α β : Type} {r : R α} {f : α → R β} {p : β → Prop} : (r.bind f).All p ↔ r.All fun a => (f a).All p := by
  induction r with
  | ok a => rw [R.bind, R.all_ok]
  | ex c => rw [R.bind, R.all_ex, R.all_ex]
  | st => rw [R.bind, R.all_st, R.all_st]
  | ask m k ih => rw [R.bind, R.all_ask, R.all_ask]; exact ⟨fun h j h0 => (ih j).mp (h j h0), fun h j h0 => (ih j).mpr (h j h0)⟩
theorem R.all_nox {α : Type} {r : R α} {p : α → Prop} : r.nox.All p ↔ r.All p := by
  induction r with
  | ok a => rw [R.nox]
  | ex c => rw [R.nox, R.all_ex, R.all_st]
  | st => rw [R.nox]
  | ask m k ih => rw [R.nox, R.all_ask, R.all_ask]; exact ⟨fun h j h0 => (ih j).mp (h j h0), fun h j h0 => (ih j).mpr (h j h0)⟩
/-- how a statement's end is wanted -/
def Out.wp0 (N : En → Prop) (T : Sl → Prop) (B C : En → Prop) : Out → Prop
  | .nx ρ => N ρ
  | .rt s _ => T s
  | .bk ρ => B ρ
  | .ct ρ => C ρ
  | .ex _ _ => False
  | .st => False
  | .ask m k => ∀ i, inR m i → (k i).wp0 N T B C
@[irreducible] def Out.Wp (N : En → Prop) (T : Sl → Prop) (B C : En → Prop) (o : Out) : Prop := o.wp0 N T B C
section
variable {N N' : En → Prop} {T T' : Sl → Prop} {B B' C C' : En → Prop} {ρ : En}
@[simp] theorem Out.wp_nx : (Out.nx ρ).Wp N T B C ↔ N ρ := by
  unfold Out.Wp
  exact Iff.rfl
@[simp] theorem Out.wp_rt {s : Sl} : (Out.rt s ρ).Wp N T B C ↔ T s := by
  unfold Out.Wp
  exact Iff.rfl
@[simp] theorem Out.wp_bk : (Out.bk ρ).Wp N T B C ↔ B ρ := by
  unfold Out.Wp
  exact Iff.rfl
@[simp] theorem Out.wp_ct : (Out.ct ρ).Wp N T B C ↔ C ρ := by
  unfold Out.Wp
  exact Iff.rfl
theorem Out.wp_ex {c : Nat} : (Out.ex c ρ).Wp N T B C ↔ False := by
  unfold Out.Wp
  exact Iff.rfl
theorem Out.wp_st : (Out.st).Wp N T B C ↔ False := by
  unfold Out.Wp
  exact Iff.rfl
theorem Out.wp_ask {m : Option Int} {k : Int → Out} : (Out.ask m k).Wp N T B C ↔ ∀ i, inR m i → (k i).Wp N T B C := by
  unfold Out.Wp
  exact Iff.rfl
theorem Out.Wp.mono {o : Out} (h : o.Wp N T B C) (hn : ∀ ρ, N ρ → N' ρ) (ht : ∀ s, T s → T' s) (hb : ∀ ρ, B ρ → B' ρ) (hc : ∀ ρ, C ρ → C' ρ) : o.Wp N' T' B' C' := by
  induction o with
  | nx ρ => exact Out.wp_nx.mpr (hn ρ (Out.wp_nx.mp h))
  | rt s ρ => exact Out.wp_rt.mpr (ht s (Out.wp_rt.mp h))
  | bk ρ => exact Out.wp_bk.mpr (hb ρ (Out.wp_bk.mp h))
  | ct ρ => exact Out.wp_ct.mpr (hc ρ (Out.wp_ct.mp h))
  | ex c ρ => exact (Out.wp_ex.mp h).elim
  | st => exact (Out.wp_st.mp h).elim
  | ask m k ih => exact Out.wp_ask.mpr fun j h0 => ih j (Out.wp_ask.mp h j h0)
theorem Out.wp_go {n c b : En → Out} {o : Out} : (o.go n c b).Wp N T B C ↔ o.Wp (fun ρ => (n ρ).Wp N T B C) T (fun ρ => (b ρ).Wp N T B C) (fun ρ => (c ρ).Wp N T B C) := by
  induction o with
  | nx ρ => rw [Out.go, Out.wp_nx]
  | rt s ρ => rw [Out.go, Out.wp_rt, Out.wp_rt]
  | bk ρ => rw [Out.go, Out.wp_bk]
  | ct ρ => rw [Out.go, Out.wp_ct]
  | ex c ρ => rw [Out.go, Out.wp_ex, Out.wp_ex]
  | st => rw [Out.go, Out.wp_st, Out.wp_st]
  | ask m k ih => rw [Out.go, Out.wp_ask, Out.wp_ask]; exact ⟨fun h j h0 => (ih j).mp (h j h0), fun h j h0 => (ih j).mpr (h j h0)⟩
theorem Out.wp_out {α : Type} {r : R α} {f : α → Out} : (r.out ρ f).Wp N T B C ↔ r.All fun a => (f a).Wp N T B C := by
  induction r with
  | ok a => rw [R.out, R.all_ok]
  | ex c => rw [R.out, Out.wp_ex, R.all_ex]
  | st => rw [R.out, Out.wp_st, R.all_st]
  | ask m k ih => rw [R.out, Out.wp_ask, R.all_ask]; exact ⟨fun h j h0 => (ih j).mp (h j h0), fun h j h0 => (ih j).mpr (h j h0)⟩
theorem Out.res_all {p : Sl → Prop} {o : Out} (h : o.Wp (fun _ => p (.v .non)) p (fun _ => False) fun _ => False) : o.res.All p := by
  induction o with
  | nx ρ => exact R.all_ok.mpr (Out.wp_nx.mp h)
  | rt s ρ => exact R.all_ok.mpr (Out.wp_rt.mp h)
  | bk ρ => exact (Out.wp_bk.mp h).elim
  | ct ρ => exact (Out.wp_ct.mp h).elim
  | ex c ρ => exact (Out.wp_ex.mp h).elim
  | st => exact (Out.wp_st.mp h).elim
  | ask m k ih => rw [Out.res]; exact R.all_ask.mpr fun j h0 => ih j (Out.wp_ask.mp h j h0)
end
theorem den_all {g : Gs} {n m : Nat} {s : S} {ds : List PD} {p : Sl → Prop} (hl : ds.length = m) (h : (run g s (start0 n ds)).Wp (fun _ => p (.v .non)) p (fun _ => False) fun _ => False) : (den g n m s ds).All p := by
  unfold den
  rw [if_pos hl]
  exact Out.res_all h
/-- a for loop by its word: of what is left and the names -/
theorem runF_wp {t : Tg} {b : En → Out} {N : En → Prop} {T : Sl → Prop} {B C : En → Prop} (I : List PD → En → Prop) (hs : ∀ x xs ρ, I (x :: xs) ρ → (bindT t x ρ).All fun ρ1 => (b ρ1).Wp (I xs) T N (I xs)) (h0 : ∀ ρ, I [] ρ → N ρ) :
    ∀ {ds : List PD} {ρ : En}, I ds ρ → (runF t b ds ρ).Wp N T B C
  | [], ρ, h => by rw [runF]; exact Out.wp_nx.mpr (h0 ρ h)
  | x :: xs, ρ, h => by
    rw [runF, Out.wp_out]
    refine (hs x xs ρ h).mono fun ρ1 h1 => ?_
    rw [Out.wp_go]
    exact h1.mono (fun ρ2 z => runF_wp I hs h0 z) (fun _ z => z) (fun _ z => Out.wp_nx.mpr z) fun ρ2 z => runF_wp I hs h0 z
/-- a while loop by its word and a measure -/
theorem runW_wp {c : En → R Bool} {b : En → Out} {N : En → Prop} {T : Sl → Prop} {B C : En → Prop} (I : Nat → En → Prop)
    (hs : ∀ n ρ, I n ρ → (c ρ).All fun t => if t = true then ∃ m, n = m + 1 ∧ (b ρ).Wp (fun ρ' => ∃ j, j ≤ m ∧ I j ρ') T N (fun ρ' => ∃ j, j ≤ m ∧ I j ρ') else N ρ) :
    ∀ {f n : Nat} {ρ : En}, I n ρ → n < f → (runW c b f ρ).Wp N T B C
  | 0, n, ρ, _, l => by omega
  | f + 1, n, ρ, h, l => by
    rw [runW, Out.wp_out]
    refine (hs n ρ h).mono fun t z => ?_
    cases t with
    | false => exact Out.wp_nx.mpr z
    | true =>
      rw [if_pos rfl] at z ⊢
      obtain ⟨m, rfl, z⟩ := z
      rw [Out.wp_go]
      exact z.mono (fun ρ' ⟨j, l1, z⟩ => runW_wp I hs z (by omega)) (fun _ z => z) (fun _ z => Out.wp_nx.mpr z) fun ρ' ⟨j, l1, z⟩ => runW_wp I hs z (by omega)
/-- a measure: the number in a slot -/
def slotN (ρ : En) (i : Nat) : Nat := match ρ[i]? with
  | some (some (.v (.int x))) => x.natAbs + 1
  | _ => 0
theorem mulOk_of {i j : Int} (a b : Nat) (h1 : i.natAbs < 2 ^ a) (h2 : j.natAbs < 2 ^ b) (h : a + b ≤ 1000000 := by decide) : mulOk i j := by
  unfold mulOk
  refine Or.inl ?_
  by_cases hi : i.natAbs = 0
  · have e : Nat.log2 0 = 0 := by decide
    rw [hi, e]
    by_cases hj : j.natAbs = 0
    · rw [hj, e]; decide
    · have := (Nat.log2_lt hj).mpr h2
      omega
  · have l1 := (Nat.log2_lt hi).mpr h1
    by_cases hj : j.natAbs = 0
    · have e : Nat.log2 0 = 0 := by decide
      rw [hj, e]
      omega
    · have := (Nat.log2_lt hj).mpr h2
      omega
theorem mulOk_l {i j : Int} (h : i.natAbs < 2 ^ 62) : mulOk i j := .inr (.inl h)
theorem mulOk_r {i j : Int} (h : j.natAbs < 2 ^ 62) : mulOk i j := .inr (.inr h)
theorem divOk_of {j : Int} (h0 : 0 < j) (h : j.natAbs < 2 ^ 9000) : divOk j := ⟨by omega, by
  have : j.natAbs ≠ 0 := by omega
  exact (Nat.log2_lt this).mpr h⟩
theorem eqS_int (a b : Int) : eqS (.int a) (.int b) = .ok (decide (a = b)) := by
  unfold eqS
  simp only [PD.py]
  rfl
theorem isS_bl (a b : Bool) : isS (.bl a) (.bl b) = .ok (decide (a = b)) := rfl
theorem atI_get {xs : List PD} {i : Int} (h0 : 0 ≤ i) (h : i < xs.length) : ∃ d, d ∈ xs ∧ atI xs i = some d ∧ xs[i.toNat]? = some d := by
  have hl : i.toNat < xs.length := by omega
  refine ⟨xs[i.toNat], List.getElem_mem hl, ?_, List.getElem?_eq_getElem hl⟩
  unfold atI ixN
  rw [if_pos h0, if_pos h]
  exact List.getElem?_eq_getElem hl
theorem at3 (a b c : PD) (i : Int) (h0 : 0 ≤ i) (h : i < 3) : atI [a, b, c] i = some a ∨ atI [a, b, c] i = some b ∨ atI [a, b, c] i = some c := by
  have : i = 0 ∨ i = 1 ∨ i = 2 := by omega
  rcases this with rfl | rfl | rfl
  · exact .inl rfl
  · exact .inr (.inl rfl)
  · exact .inr (.inr rfl)
theorem fmod_range {i m : Int} (h : 0 < m) : 0 ≤ i.fmod m ∧ i.fmod m < m := ⟨Int.fmod_nonneg_of_pos i h, Int.fmod_lt_of_pos i h⟩
theorem fdiv_nonneg {i m : Int} (h : 0 ≤ i) (hm : 0 ≤ m) : 0 ≤ i.fdiv m := Int.fdiv_nonneg h hm
theorem gcd_step {a b : Int} (ha : 0 ≤ a) (hb : 0 ≤ b) : Int.gcd b (a.fmod b) = Int.gcd a b := by
  obtain ⟨m, rfl⟩ := Int.eq_ofNat_of_zero_le ha
  obtain ⟨n, rfl⟩ := Int.eq_ofNat_of_zero_le hb
  rw [Int.fmod_eq_emod_of_nonneg _ hb, ← Int.natCast_emod, Int.gcd_natCast_natCast, Int.gcd_natCast_natCast, Nat.gcd_comm m n, Nat.gcd_rec n m, Nat.gcd_comm]
theorem sz {n : Nat} (h : n ≤ 16777216) : n ≤ sizeLine := by rw [sizeLine_eq]; exact h
theorem go_nx {n c b : En → Out} {ρ : En} : (Out.nx ρ).go n c b = n ρ := rfl
theorem go_ct {n c b : En → Out} {ρ : En} : (Out.ct ρ).go n c b = c ρ := rfl
theorem go_bk {n c b : En → Out} {ρ : En} : (Out.bk ρ).go n c b = b ρ := rfl
theorem go_rt {n c b : En → Out} {s : Sl} {ρ : En} : (Out.rt s ρ).go n c b = .rt s ρ := rfl
theorem asP_v {d : PD} : asP (.ok (.v d)) = .ok d := rfl
theorem asP_l {d : List PD} : asP (.ok (.l d)) = .ok (.lst d) := rfl
theorem asP_k {t : Bool} {d : List (PD × PD)} : asP (.ok (.k t d)) = .ok (.dct d) := rfl
theorem asB_ok {b : Bool} : asB (.ok (.v (.bl b))) = .ok b := rfl
theorem asI_ok {b : Int} : asI (.ok (.v (.int b))) = .ok b := rfl
theorem nox_ok {α : Type} {a : α} : (R.ok a).nox = .ok a := rfl
theorem b_add {i j : Int} : bSem .add (.int i) (.int j) = .ok (.v (.int (i + j))) := rfl
theorem b_adds {a b : Str} : bSem .add (.str a) (.str b) = if a.length + b.length ≤ sizeLine then .ok (.v (.str (a ++ b))) else .st := rfl
theorem b_addt {a b : List PD} : bSem .add (.tup a) (.tup b) = if a.length + b.length ≤ sizeLine then .ok (.v (.tup (a ++ b))) else .st := rfl
theorem b_addl {a b : List PD} : bSem .add (.lst a) (.lst b) = if a.length + b.length ≤ sizeLine then .ok (.l (a ++ b)) else .st := rfl
theorem b_sub {i j : Int} : bSem .sub (.int i) (.int j) = .ok (.v (.int (i - j))) := rfl
theorem b_mul {i j : Int} : bSem .mul (.int i) (.int j) = if mulOk i j then .ok (.v (.int (i * j))) else .st := rfl
theorem b_fdiv {i j : Int} : bSem .fdiv (.int i) (.int j) = if divOk j then .ok (.v (.int (i.fdiv j))) else .st := rfl
theorem b_mod {i j : Int} : bSem .mod (.int i) (.int j) = if j ≠ 0 then .ok (.v (.int (i.fmod j))) else .st := rfl
theorem b_pow {i j : Int} : bSem .pow (.int i) (.int j) = if powOk i j then .ok (.v (.int (i ^ j.toNat))) else .st := rfl
theorem b_eq {a b : PD} : bSem .eq a b = (eqS a b).bind fun c => .ok (.v (.bl c)) := rfl
theorem b_ne {a b : PD} : bSem .ne a b = (eqS a b).bind fun c => .ok (.v (.bl (!c))) := rfl
theorem b_lt {i j : Int} : bSem .lt (.int i) (.int j) = .ok (.v (.bl (decide (i < j)))) := rfl
theorem b_le {i j : Int} : bSem .le (.int i) (.int j) = .ok (.v (.bl (decide (i ≤ j)))) := rfl
theorem b_gt {i j : Int} : bSem .gt (.int i) (.int j) = .ok (.v (.bl (decide (j < i)))) := rfl
theorem b_ge {i j : Int} : bSem .ge (.int i) (.int j) = .ok (.v (.bl (decide (j ≤ i)))) := rfl
theorem b_is {a b : PD} : bSem .is a b = (isS a b).bind fun c => .ok (.v (.bl c)) := rfl
theorem b_isn {a b : PD} : bSem .isn a b = (isS a b).bind fun c => .ok (.v (.bl (!c))) := rfl
theorem b_inn {x : PD} {ys : List PD} : bSem .inn x (.lst ys) = (inS x ys).bind fun c => .ok (.v (.bl c)) := by cases x <;> rfl
theorem b_nin {x : PD} {ys : List PD} : bSem .nin x (.lst ys) = (inS x ys).bind fun c => .ok (.v (.bl (!c))) := by cases x <;> rfl
theorem b_idxl {xs : List PD} {i : Int} : bSem .idx (.lst xs) (.int i) = match atI xs i with
    | some d => .ok (.v d)
    | none => .st := rfl
theorem b_idxt {xs : List PD} {i : Int} : bSem .idx (.tup xs) (.int i) = match atI xs i with
    | some d => .ok (.v d)
    | none => .st := rfl
theorem b_max {i j : Int} : bSem .max2 (.int i) (.int j) = .ok (.v (.int (if j > i then j else i))) := rfl
theorem b_divm {i j : Int} : bSem .divm (.int i) (.int j) = if 0 < j ∧ j < 1073741824 then .ok (.v (.tup [.int (i.fdiv j), .int (i.fmod j)])) else .st := rfl
theorem b_let {a b : List PD} : bSem .le (.tup a) (.tup b) = match ints? a, ints? b with
    | some ns, some ms => okB (!HT.lexLt ms ns)
    | _, _ => .st := rfl
theorem b_muls {a : Str} {n : Int} : bSem .mul (.str a) (.int n) = if 2 ≤ n ∧ n < 2147483648 ∧ 1 ≤ a.length ∧ a.length * n.toNat ≤ sizeLine then .ok (.v (.str (repS a n.toNat))) else .st := rfl
theorem u_sort_strs {ss : List Str} (h : ss.length < 64) (h0 : ints? (ss.map PD.str) = none) (h1 : tints? (ss.map PD.str) = none) : uSem .sorted1 (.lst (ss.map .str)) = .ok (.l ((strSort ss).map .str)) := by
  show (match ints? (ss.map PD.str) with
    | some ns => R.ok (Sl.l ((intSort ns).map .int))
    | none => match tints? (ss.map PD.str) with
      | some L => if L.all (fun ns => !ns.isEmpty) then .ok (.l ((lexSort L).map tupI)) else .st
      | none => match strs? (ss.map PD.str) with
        | some ss => if ss.length < 64 then .ok (.l ((strSort ss).map .str)) else .st
        | none => .st) = _
  rw [h0, h1, strs?_map]
  exact if_pos h
theorem mk_strip {a : Str} : mK .strip (.str a) = true := rfl
theorem m_strip {a b : Str} : mSem .strip (.str a) (.str b) = if a.length ≤ sizeLine then .ok (.v (.str (Txt.stripChars a b))) else .st := rfl
theorem m_join {a : Str} {ys : List PD} : mSem .join (.str a) (.lst ys) = (match strs? ys with
    | some ts => if (ts.map (·.length)).sum + ts.length * a.length ≤ 16777216 then .ok (.v (.str (Txt.join a ts))) else .st
    | none => .st) := rfl
theorem mk_index {xs : List PD} : mK .index (.lst xs) = true := rfl
theorem mk_join {a : Str} : mK .join (.str a) = true := rfl
theorem mk_split {a : Str} : mK .split (.str a) = true := rfl
theorem b_min {i j : Int} : bSem .min2 (.int i) (.int j) = .ok (.v (.int (if j < i then j else i))) := rfl
theorem u_neg {i : Int} : uSem .neg (.int i) = .ok (.v (.int (-i))) := rfl
theorem u_lenl {xs : List PD} : uSem .len (.lst xs) = .ok (.v (.int xs.length)) := rfl
theorem u_lent {xs : List PD} : uSem .len (.tup xs) = .ok (.v (.int xs.length)) := rfl
theorem u_abs {i : Int} : uSem .abs (.int i) = .ok (.v (.int (if i < 0 then -i else i))) := rfl
theorem u_int {i : Int} : uSem .int1 (.int i) = .ok (.v (.int i)) := rfl
theorem u_intb {b : Bool} : uSem .int1 (.bl b) = .ok (.v (.int (if b then 1 else 0))) := rfl
theorem u_tupl {xs : List PD} : uSem .tuple1 (.lst xs) = .ok (.v (.tup xs)) := rfl
theorem u_tupt {xs : List PD} : uSem .tuple1 (.tup xs) = .ok (.v (.tup xs)) := rfl
theorem u_lstl {xs : List PD} : uSem .list1 (.lst xs) = .ok (.l xs) := rfl
theorem u_lstt {xs : List PD} : uSem .list1 (.tup xs) = .ok (.l xs) := rfl
theorem u_str {i : Int} : uSem .str1 (.int i) = if i.natAbs.log2 < 1920 then .ok (.v (.str (toString i))) else .st := rfl
theorem u_strs {x : Str} : uSem .str1 (.str x) = .ok (.v (.str x)) := rfl
theorem u_all {xs : List PD} : uSem .all (.lst xs) = match bls? xs with
    | some bs => .ok (.v (.bl (bs.all id)))
    | none => .st := rfl
theorem u_any {xs : List PD} : uSem .any (.lst xs) = match bls? xs with
    | some bs => .ok (.v (.bl (bs.any id)))
    | none => .st := rfl
theorem u_sum {xs : List PD} : uSem .sum (.lst xs) = match ints? xs with
    | some bs => .ok (.v (.int bs.sum))
    | none => .st := rfl
theorem seq_l {xs : List PD} : toSeq (.lst xs) = .ok xs := rfl
theorem seq_t {xs : List PD} : toSeq (.tup xs) = .ok xs := rfl
theorem seq_s {x : Str} : toSeq (.str x) = .ok (x.cps.toList.map fun c => .str ⟨#[c]⟩) := rfl
theorem sl_l {xs : List PD} {lo hi : Option Int} : slS (.lst xs) lo hi = .ok (.l (cutP xs lo hi)) := rfl
theorem sl_t {xs : List PD} {lo hi : Option Int} : slS (.tup xs) lo hi = .ok (.v (.tup (cutP xs lo hi))) := rfl
theorem sl_s {x : Str} {lo hi : Option Int} : slS (.str x) lo hi = if x.length ≤ sizeLine then .ok (.v (.str (cutS x lo hi))) else .st := rfl
theorem isi_one {g : Gs} {d : PD} {t : Ty} : isiAny g d [t] = isiS g d t := by unfold isiAny; cases isiS g d t with
  | none => rfl
  | some b => cases b <;> rfl
theorem is_NoneType_int {g : Gs} : isiAny g .non [.bt "int"] = some false := by rw [isi_one]; rfl
theorem is_NoneType_bool {g : Gs} : isiAny g .non [.bt "bool"] = some false := by rw [isi_one]; rfl
theorem is_NoneType_tuple {g : Gs} : isiAny g .non [.bt "tuple"] = some false := by rw [isi_one]; rfl
theorem is_NoneType_list {g : Gs} : isiAny g .non [.bt "list"] = some false := by rw [isi_one]; rfl
theorem is_NoneType_str {g : Gs} : isiAny g .non [.bt "str"] = some false := by rw [isi_one]; rfl
theorem is_bool_int {b : Bool} {g : Gs} : isiAny g (.bl b) [.bt "int"] = some true := by rw [isi_one]; rfl
theorem is_bool_bool {b : Bool} {g : Gs} : isiAny g (.bl b) [.bt "bool"] = some true := by rw [isi_one]; rfl
theorem is_bool_tuple {b : Bool} {g : Gs} : isiAny g (.bl b) [.bt "tuple"] = some false := by rw [isi_one]; rfl
theorem is_bool_list {b : Bool} {g : Gs} : isiAny g (.bl b) [.bt "list"] = some false := by rw [isi_one]; rfl
theorem is_bool_str {b : Bool} {g : Gs} : isiAny g (.bl b) [.bt "str"] = some false := by rw [isi_one]; rfl
theorem is_int_int {i : Int} {g : Gs} : isiAny g (.int i) [.bt "int"] = some true := by rw [isi_one]; rfl
theorem is_int_bool {i : Int} {g : Gs} : isiAny g (.int i) [.bt "bool"] = some false := by rw [isi_one]; rfl
theorem is_int_tuple {i : Int} {g : Gs} : isiAny g (.int i) [.bt "tuple"] = some false := by rw [isi_one]; rfl
theorem is_int_list {i : Int} {g : Gs} : isiAny g (.int i) [.bt "list"] = some false := by rw [isi_one]; rfl
theorem is_int_str {i : Int} {g : Gs} : isiAny g (.int i) [.bt "str"] = some false := by rw [isi_one]; rfl
theorem is_str_int {x : Str} {g : Gs} : isiAny g (.str x) [.bt "int"] = some false := by rw [isi_one]; rfl
theorem is_str_bool {x : Str} {g : Gs} : isiAny g (.str x) [.bt "bool"] = some false := by rw [isi_one]; rfl
theorem is_str_tuple {x : Str} {g : Gs} : isiAny g (.str x) [.bt "tuple"] = some false := by rw [isi_one]; rfl
theorem is_str_list {x : Str} {g : Gs} : isiAny g (.str x) [.bt "list"] = some false := by rw [isi_one]; rfl
theorem is_str_str {x : Str} {g : Gs} : isiAny g (.str x) [.bt "str"] = some true := by rw [isi_one]; rfl
theorem is_tuple_int {xs : List PD} {g : Gs} : isiAny g (.tup xs) [.bt "int"] = some false := by rw [isi_one]; rfl
theorem is_tuple_bool {xs : List PD} {g : Gs} : isiAny g (.tup xs) [.bt "bool"] = some false := by rw [isi_one]; rfl
theorem is_tuple_tuple {xs : List PD} {g : Gs} : isiAny g (.tup xs) [.bt "tuple"] = some true := by rw [isi_one]; rfl
theorem is_tuple_list {xs : List PD} {g : Gs} : isiAny g (.tup xs) [.bt "list"] = some false := by rw [isi_one]; rfl
theorem is_tuple_str {xs : List PD} {g : Gs} : isiAny g (.tup xs) [.bt "str"] = some false := by rw [isi_one]; rfl
theorem is_list_int {xs : List PD} {g : Gs} : isiAny g (.lst xs) [.bt "int"] = some false := by rw [isi_one]; rfl
theorem is_list_bool {xs : List PD} {g : Gs} : isiAny g (.lst xs) [.bt "bool"] = some false := by rw [isi_one]; rfl
theorem is_list_tuple {xs : List PD} {g : Gs} : isiAny g (.lst xs) [.bt "tuple"] = some false := by rw [isi_one]; rfl
theorem is_list_list {xs : List PD} {g : Gs} : isiAny g (.lst xs) [.bt "list"] = some true := by rw [isi_one]; rfl
theorem is_list_str {xs : List PD} {g : Gs} : isiAny g (.lst xs) [.bt "str"] = some false := by rw [isi_one]; rfl
theorem is_dict_int {kvs : List (PD × PD)} {g : Gs} : isiAny g (.dct kvs) [.bt "int"] = some false := by rw [isi_one]; rfl
theorem is_dict_bool {kvs : List (PD × PD)} {g : Gs} : isiAny g (.dct kvs) [.bt "bool"] = some false := by rw [isi_one]; rfl
theorem is_dict_tuple {kvs : List (PD × PD)} {g : Gs} : isiAny g (.dct kvs) [.bt "tuple"] = some false := by rw [isi_one]; rfl
theorem is_dict_list {kvs : List (PD × PD)} {g : Gs} : isiAny g (.dct kvs) [.bt "list"] = some false := by rw [isi_one]; rfl
theorem is_dict_str {kvs : List (PD × PD)} {g : Gs} : isiAny g (.dct kvs) [.bt "str"] = some false := by rw [isi_one]; rfl
theorem all_asP {r : R Sl} {p : PD → Prop} : (asP r).All p ↔ r.All fun s => p s.pd := by
  unfold FS.asP
  rw [R.all_bind]
  simp only [R.all_ok]
def isB (s : Sl) (p : Bool → Prop) : Prop := (asB (.ok s)).All p
def isI (s : Sl) (p : Int → Prop) : Prop := (asI (.ok s)).All p
theorem isB_ok {b : Bool} {p : Bool → Prop} : isB (.v (.bl b)) p ↔ p b := R.all_ok
theorem isI_ok {b : Int} {p : Int → Prop} : isI (.v (.int b)) p ↔ p b := R.all_ok
theorem all_asB {r : R Sl} {p : Bool → Prop} : (asB r).All p ↔ r.All fun s => isB s p := R.all_bind
theorem all_asI {r : R Sl} {p : Int → Prop} : (asI r).All p ↔ r.All fun s => isI s p := R.all_bind
theorem pow18 : powOk 10 18 := by decide
theorem pow16 : powOk 10 16 := by decide
theorem pow57 : powOk 10 57 := by decide
theorem pow60 : powOk 10 60 := by decide
theorem pow9 : powOk 10 9 := by decide
/-! the meaning, step by step -/
def evB (g : Gs) (e : E) (ρ : En) : R Bool := asB (ev g e ρ)
def evP (g : Gs) (e : E) (ρ : En) : R PD := asP (ev g e ρ)
def sel (b : Bool) (x y : En → Out) (ρ : En) : Out := if b = true then x ρ else y ρ
def selE (b : Bool) (x y : En → R Sl) (ρ : En) : R Sl := if b = true then x ρ else y ρ
def tst (g : Gs) (e : E) (ρ : En) : R Sl := (asB (ev g e ρ)).bind fun b => .ok (.v (.bl b))
def cst (b : Bool) (_ : En) : R Sl := .ok (.v (.bl b))
def ch2 (g : Gs) (p : B) (d : E) (y : PD) (ρ : En) : R Sl := (asP (ev g d ρ)).bind fun z => (asB (bSem p y z)).bind fun b => .ok (.v (.bl b))
/-- what is left of a text, to be run from some names -/
@[irreducible] def Rest (g : Gs) (r : S) (N : En → Prop) (T : Sl → Prop) (B C : En → Prop) (ρ : En) : Prop := (FS.run g r ρ).Wp N T B C
theorem Rest.mk {g : Gs} {r : S} {N : En → Prop} {T : Sl → Prop} {B C : En → Prop} {ρ : En} (h : (FS.run g r ρ).Wp N T B C) : Rest g r N T B C ρ := by rw [Rest]; exact h
theorem w_seq {g : Gs} {a r : S} {N : En → Prop} {T : Sl → Prop} {B C : En → Prop} {ρ : En} : (FS.run g (.seq a r) ρ).Wp N T B C ↔ (FS.run g a ρ).Wp (Rest g r N T B C) T B C := by
  have e : Rest g r N T B C = fun ρ => (FS.run g r ρ).Wp N T B C := by funext ρ; rw [Rest]
  rw [FS.run, Out.wp_go, e]
  have e2 : (fun ρ => (Out.bk ρ).Wp N T B C) = B := by funext ρ; exact propext Out.wp_bk
  have e3 : (fun ρ => (Out.ct ρ).Wp N T B C) = C := by funext ρ; exact propext Out.wp_ct
  rw [e2, e3]
theorem w_sel {b : Bool} {g : Gs} {x y : S} {N : En → Prop} {T : Sl → Prop} {B C : En → Prop} {ρ : En} : (sel b (FS.run g x) (FS.run g y) ρ).Wp N T B C ↔ if b = true then Rest g x N T B C ρ else Rest g y N T B C ρ := by
  rw [Rest, Rest]
  cases b <;> exact Iff.rfl
section
variable {g : Gs} {ρ : En}
theorem sel_t {x y : En → Out} : sel true x y ρ = x ρ := rfl
theorem sel_f {x y : En → Out} : sel false x y ρ = y ρ := rfl
theorem selE_t {x y : En → R Sl} : selE true x y ρ = x ρ := rfl
theorem selE_f {x y : En → R Sl} : selE false x y ρ = y ρ := rfl
theorem evB_at {e : E} : evB g e ρ = asB (ev g e ρ) := rfl
theorem evP_at {e : E} : evP g e ρ = asP (ev g e ρ) := rfl
theorem r_pass : FS.run g .pass ρ = .nx ρ := by first | (simp only [FS.run]; done) | (simp only [FS.run]; rfl)
theorem r_set {i : Nat} {e : E} : FS.run g (.set i e) ρ = (asP (ev g e ρ)).out ρ fun d => .nx (ρ.set i (some (.v d))) := by first | (simp only [FS.run]; done) | (simp only [FS.run]; rfl)
theorem r_own {i : Nat} {e : E} : FS.run g (.own i e) ρ = (ev g e ρ).out ρ fun s => .nx (ρ.set i (some s)) := by first | (simp only [FS.run]; done) | (simp only [FS.run]; rfl)
theorem r_frz {i : Nat} : FS.run g (.frz i) ρ = match ρ[i]? with
    | some (some s) => .nx (ρ.set i (some s.thaw))
    | _ => .st := by first | (simp only [FS.run]; done) | (simp only [FS.run]; rfl)
theorem r_unp {t : Tg} {e : E} : FS.run g (.unp t e) ρ = (asP (ev g e ρ)).out ρ fun d => (bindT t d ρ).out ρ .nx := by first | (simp only [FS.run]; done) | (simp only [FS.run]; rfl)
theorem r_par {i j : Nat} {a c : E} : FS.run g (.par i j a c) ρ = (asP (ev g a ρ)).out ρ fun x => (asP (ev g c ρ)).out ρ fun y => .nx ((ρ.set i (some (.v x))).set j (some (.v y))) := by first | (simp only [FS.run]; done) | (simp only [FS.run]; rfl)
theorem r_app {i : Nat} {e : E} : FS.run g (.app i e) ρ = match ρ[i]? with
    | some (some (.l ds)) => (asP (ev g e ρ)).out ρ fun d => if ds.length < sizeLine then .nx (ρ.set i (some (.l (ds ++ [d])))) else .st
    | _ => .st := by first | (simp only [FS.run]; done) | (simp only [FS.run]; rfl)
theorem r_popd {i : Nat} : FS.run g (.popd i) ρ = match ρ[i]? with
    | some (some (.l ds)) => match ds.getLast? with
      | some _ => .nx (ρ.set i (some (.l ds.dropLast)))
      | none => .st
    | _ => .st := by first | (simp only [FS.run]; done) | (simp only [FS.run]; rfl)
theorem r_popa {i : Nat} {ix : E} : FS.run g (.popa i ix) ρ = match ρ[i]? with
    | some (some (.l ds)) => (asI (ev g ix ρ)).out ρ fun z => match ixN ds.length z with
      | some j => if -(2 ^ 62) < z ∧ z < 2 ^ 62 then .nx (ρ.set i (some (.l (ds.eraseIdx j)))) else .st
      | none => .st
    | _ => .st := by first | (simp only [FS.run]; done) | (simp only [FS.run]; rfl)
theorem r_swp {i : Nat} {ix iy e : E} : FS.run g (.swp i ix iy e) ρ = match ρ[i]? with
    | some (some (.l ds)) => (asP (ev g e ρ)).out ρ fun d => match d with
      | .tup [a, b] => (asI (ev g ix ρ)).out ρ fun x => match ixN ds.length x with
        | some j => (asI (ev g iy (ρ.set i (some (.l (ds.set j a)))))).out (ρ.set i (some (.l (ds.set j a)))) fun y => match ixN (ds.set j a).length y with
          | some l => .nx ((ρ.set i (some (.l (ds.set j a)))).set i (some (.l ((ds.set j a).set l b))))
          | none => .st
        | none => .st
      | _ => .st
    | _ => .st := by first | (simp only [FS.run]; done) | (simp only [FS.run]; rfl)
theorem r_expr {e : E} : FS.run g (.expr e) ρ = (ev g e ρ).out ρ fun _ => .nx ρ := by first | (simp only [FS.run]; done) | (simp only [FS.run]; rfl)
theorem r_ret {e : E} : FS.run g (.ret e) ρ = (ev g e ρ).out ρ fun s => .rt s ρ := by first | (simp only [FS.run]; done) | (simp only [FS.run]; rfl)
theorem r_retm {i : Nat} : FS.run g (.retm i) ρ = match ρ[i]? with
    | some (some s) => .rt s ρ
    | _ => .st := by first | (simp only [FS.run]; done) | (simp only [FS.run]; rfl)
theorem r_retn : FS.run g .retn ρ = .rt (.v .non) ρ := by first | (simp only [FS.run]; done) | (simp only [FS.run]; rfl)
theorem r_ifs {c : E} {a d : S} : FS.run g (.ifs c a d) ρ = (asB (ev g c ρ)).out ρ fun b => sel b (FS.run g a) (FS.run g d) ρ := by simp only [FS.run, sel]
theorem r_whl {f : En → Nat} {c : E} {b : S} : FS.run g (.whl f c b) ρ = runW (evB g c) (FS.run g b) (f ρ) ρ := by first | (simp only [FS.run]; done) | (simp only [FS.run]; rfl)
theorem r_fr {t : Tg} {it : E} {b : S} : FS.run g (.fr t it b) ρ = (evi g it ρ).out ρ fun xs => runF t (FS.run g b) xs ρ := by rw [FS.run]
theorem r_brk : FS.run g .brk ρ = .bk ρ := by first | (simp only [FS.run]; done) | (simp only [FS.run]; rfl)
theorem r_cnt : FS.run g .cnt ρ = .ct ρ := by first | (simp only [FS.run]; done) | (simp only [FS.run]; rfl)
theorem r_raise {c : Nat} : FS.run g (.raise c) ρ = .ex c ρ := by first | (simp only [FS.run]; done) | (simp only [FS.run]; rfl)
theorem r_nil : FS.run g .nil ρ = .nx ρ := by first | (simp only [FS.run]; done) | (simp only [FS.run]; rfl)
theorem r_seq {a r : S} : FS.run g (.seq a r) ρ = (FS.run g a ρ).go (FS.run g r) .ct .bk := by rw [FS.run]
theorem e_var {i : Nat} : ev g (.var i) ρ = match ρ[i]? with
    | some (some (.v d)) => .ok (.v d)
    | _ => .st := by first | (simp only [ev]; done) | (simp only [ev]; rfl)
theorem e_lit {d : PD} : ev g (.lit d) ρ = .ok (.v d) := by first | (simp only [ev]; done) | (simp only [ev]; rfl)
theorem e_glo {j : Nat} : ev g (.glo j) ρ = .ok (.v (g.glo j)) := by first | (simp only [ev]; done) | (simp only [ev]; rfl)
theorem e_u {o : U} {a : E} : ev g (.u o a) ρ = (asP (ev g a ρ)).bind (uSem o) := by first | (simp only [ev]; done) | (simp only [ev]; rfl)
theorem e_b {o : B} {a c : E} : ev g (.b o a c) ρ = (asP (ev g a ρ)).bind fun x => (asP (ev g c ρ)).bind (bSem o x) := by first | (simp only [ev]; done) | (simp only [ev]; rfl)
theorem e_isi {m : Bool} {ts : List Ty} {a : E} : ev g (.isi m ts a) ρ = (asP (ev g a ρ)).bind fun x => match isiAny g x ts with
    | some b => .ok (.v (.bl b))
    | none => .st := by first | (simp only [ev]; done) | (simp only [ev]; rfl)
theorem e_slc {a lo hi : E} : ev g (.slc a lo hi) ρ = (asP (ev g a ρ)).bind fun x => (evo g lo ρ).bind fun i => (evo g hi ρ).bind fun j => slS x i j := by first | (simp only [ev]; done) | (simp only [ev]; rfl)
theorem e_rep {a c : E} : ev g (.rep a c) ρ = (ev g a ρ).bind fun s => (asI (ev g c ρ)).bind fun n => match s with
    | .l xs => if -(2 ^ 63) ≤ n ∧ n < 2 ^ 63 ∧ xs.length * n.toNat ≤ sizeLine then .ok (.l (List.replicate n.toNat xs).flatten) else .st
    | _ => .st := by first | (simp only [ev]; done) | (simp only [ev]; rfl)
theorem e_and {a c : E} : ev g (.and a c) ρ = (asB (ev g a ρ)).bind fun b => selE b (tst g c) (cst false) ρ := by simp only [ev, selE, tst, cst]
theorem e_or {a c : E} : ev g (.or a c) ρ = (asB (ev g a ρ)).bind fun b => selE b (cst true) (tst g c) ρ := by simp only [ev, selE, tst, cst]
theorem tst_at {e : E} : tst g e ρ = (asB (ev g e ρ)).bind fun b => .ok (.v (.bl b)) := rfl
theorem cst_at {b : Bool} : cst b ρ = .ok (.v (.bl b)) := rfl
theorem ch2_at {p : B} {d : E} {y : PD} : ch2 g p d y ρ = (asP (ev g d ρ)).bind fun z => (asB (bSem p y z)).bind fun b => .ok (.v (.bl b)) := rfl
theorem e_not {a : E} : ev g (.not a) ρ = (asB (ev g a ρ)).bind fun b => .ok (.v (.bl (!b))) := by first | (simp only [ev]; done) | (simp only [ev]; rfl)
theorem e_ite {c a d : E} : ev g (.ite c a d) ρ = (asB (ev g c ρ)).bind fun b => selE b (ev g a) (ev g d) ρ := by simp only [ev, selE]
theorem e_chn {o p : B} {a c d : E} : ev g (.chn o p a c d) ρ = (asP (ev g a ρ)).bind fun x => (asP (ev g c ρ)).bind fun y => (asB (bSem o x y)).bind fun b => selE b (ch2 g p d y) (cst false) ρ := by simp only [ev, selE, ch2, cst]
def ch3 (g : Gs) (p q : B) (d e : E) (y : PD) (ρ : En) : R Sl := (asP (ev g d ρ)).bind fun z => (asB (bSem p y z)).bind fun b => selE b (ch2 g q e z) (cst false) ρ
theorem ch3_at {p q : B} {d e : E} {y : PD} : ch3 g p q d e y ρ = (asP (ev g d ρ)).bind fun z => (asB (bSem p y z)).bind fun b => selE b (ch2 g q e z) (cst false) ρ := rfl
theorem e_chn3 {o p q : B} {a c d e : E} : ev g (.chn3 o p q a c d e) ρ = (asP (ev g a ρ)).bind fun x => (asP (ev g c ρ)).bind fun y => (asB (bSem o x y)).bind fun b => selE b (ch3 g p q d e y) (cst false) ρ := by simp only [ev, selE, ch2, ch3, cst]
theorem e_mkx {c : Nat} {e : E} : ev g (.mkx c e) ρ = (asP (ev g e ρ)).bind fun _ => if c < g.nc then .ok (.v (.exn c)) else .st := by first | (simp only [ev]; done) | (simp only [ev]; rfl)
theorem e_mth {o : Mo} {a e : E} : ev g (.mth o a e) ρ = (asP (ev g a ρ)).bind fun x => if mK o x = true then (asP (ev g e ρ)).bind (mSem o x) else .st := by first | (simp only [ev]; done) | (simp only [ev]; rfl)
theorem e_lrng {a c : E} : ev g (.lrng a c) ρ = (asI (ev g a ρ)).bind fun i => (asI (ev g c ρ)).bind fun j => if smallI i ∧ smallI j ∧ (j - i).toNat ≤ 16777216 then .ok (.l (rngItems i j)) else .st := by first | (simp only [ev]; done) | (simp only [ev]; rfl)
theorem e_qcall {f : Nat} {es : E} : ev g (.qcall f es) ρ = ((evs g es ρ).bind (g.fn f)).nox := by first | (simp only [ev]; done) | (simp only [ev]; rfl)
theorem e_tup {es : E} : ev g (.tup es) ρ = (evs g es ρ).bind fun ds => if ds.length ≤ sizeLine then .ok (.v (.tup ds)) else .st := by first | (simp only [ev]; done) | (simp only [ev]; rfl)
theorem e_lst {es : E} : ev g (.lst es) ρ = (evs g es ρ).bind fun ds => if ds.length ≤ sizeLine then .ok (.l ds) else .st := by first | (simp only [ev]; done) | (simp only [ev]; rfl)
theorem e_call {f : Nat} {es : E} : ev g (.call f es) ρ = (evs g es ρ).bind (g.fn f) := by first | (simp only [ev]; done) | (simp only [ev]; rfl)
theorem e_comp {own : List (Str × Nat)} {t : Tg} {it c e : E} : ev g (.comp own t it c e) ρ = (evi g it ρ).bind fun xs => if xs.length < sizeLine then (compGo (bindT t) (evB g c) (evP g e) (wipeE ρ (own.map (·.2))) xs).nox.bind (fun ds => .ok (.l ds)) else .st := by first | (simp only [ev]; done) | (simp only [ev]; rfl)
theorem e_bor {e : E} : ev g (.bor e) ρ = (ev g e (thaw ρ)).bind fun s => match s with
    | .v d => if d.flat then .ok (.v d) else .st
    | _ => .st := by first | (simp only [ev]; done) | (simp only [ev]; rfl)
theorem e_pget {i : Nat} {e : E} : ev g (.pget i e) ρ = match ρ[i]? with
    | some (some (.v .pot)) => (asI (ev g e ρ)).bind fun j => match g.pr j with
      | some m => .ask m fun n => .ok (.v (.int n))
      | none => .st
    | _ => .st := by first | (simp only [ev]; done) | (simp only [ev]; rfl)
theorem r_pput {i : Nat} {ix e : E} : FS.run g (.pput i ix e) ρ = match ρ[i]? with
    | some (some (.v .pot)) => (asI (ev g e ρ)).out ρ fun n => (asI (ev g ix ρ)).out ρ fun j => match g.pr j with
      | some m => if inR m n then .nx ρ else .st
      | none => .st
    | _ => .st := by first | (simp only [FS.run]; done) | (simp only [FS.run]; rfl)
theorem e_d0 {t : Bool} : ev g (.dct0 t) ρ = .ok (.k t []) := by first | (simp only [ev]; done) | (simp only [ev]; rfl)
theorem e_d1 {a c : E} : ev g (.dct1 a c) ρ = (asI (ev g a ρ)).bind fun i => (asP (ev g c ρ)).bind fun x => if x.flat then .ok (.k false [(.int i, x)]) else .st := by first | (simp only [ev]; done) | (simp only [ev]; rfl)
theorem es_nil : evs g .nil ρ = .ok [] := by simp only [evs]
theorem es_cons {e es : E} : evs g (.cons e es) ρ = (asP (ev g e ρ)).bind fun d => (evs g es ρ).bind fun ds => .ok (d :: ds) := by simp only [evs]
theorem eo_no : evo g .no ρ = .ok none := by simp only [evo]
theorem eo_yes {e : E} : evo g (.cons e .no) ρ = (asI (ev g e ρ)).bind fun i => .ok (some i) := by simp only [evo]
theorem ei_seq {e : E} : evi g (.seq e) ρ = (asP (ev g e ρ)).bind toSeq := by simp only [evi]
theorem ei_rng {es : E} : evi g (.rng es) ρ = (evs g es ρ).bind rngS := by simp only [evi]
theorem ei_zip {a c : E} : evi g (.zip a c) ρ = (asP (ev g a ρ)).bind fun x => (asP (ev g c ρ)).bind (zipS x) := by simp only [evi]
theorem ei_enm {a : E} : evi g (.enum a) ρ = (asP (ev g a ρ)).bind enumS := by simp only [evi]
end
theorem szle0 : ((0 : Nat) ≤ sizeLine) = True := eq_true (sz (by decide))
theorem szlt0 : ((0 : Nat) < sizeLine) = True := eq_true (by rw [sizeLine_eq]; decide)
theorem szle1 : ((1 : Nat) ≤ sizeLine) = True := eq_true (sz (by decide))
theorem szlt1 : ((1 : Nat) < sizeLine) = True := eq_true (by rw [sizeLine_eq]; decide)
theorem szle2 : ((2 : Nat) ≤ sizeLine) = True := eq_true (sz (by decide))
theorem szlt2 : ((2 : Nat) < sizeLine) = True := eq_true (by rw [sizeLine_eq]; decide)
theorem szle3 : ((3 : Nat) ≤ sizeLine) = True := eq_true (sz (by decide))
theorem szlt3 : ((3 : Nat) < sizeLine) = True := eq_true (by rw [sizeLine_eq]; decide)
theorem szle4 : ((4 : Nat) ≤ sizeLine) = True := eq_true (sz (by decide))
theorem szlt4 : ((4 : Nat) < sizeLine) = True := eq_true (by rw [sizeLine_eq]; decide)
theorem szle5 : ((5 : Nat) ≤ sizeLine) = True := eq_true (sz (by decide))
theorem szlt5 : ((5 : Nat) < sizeLine) = True := eq_true (by rw [sizeLine_eq]; decide)
theorem szle6 : ((6 : Nat) ≤ sizeLine) = True := eq_true (sz (by decide))
theorem szlt6 : ((6 : Nat) < sizeLine) = True := eq_true (by rw [sizeLine_eq]; decide)
theorem szle7 : ((7 : Nat) ≤ sizeLine) = True := eq_true (sz (by decide))
theorem szlt7 : ((7 : Nat) < sizeLine) = True := eq_true (by rw [sizeLine_eq]; decide)
theorem szle8 : ((8 : Nat) ≤ sizeLine) = True := eq_true (sz (by decide))
theorem szlt8 : ((8 : Nat) < sizeLine) = True := eq_true (by rw [sizeLine_eq]; decide)
theorem szle9 : ((9 : Nat) ≤ sizeLine) = True := eq_true (sz (by decide))
theorem szlt9 : ((9 : Nat) < sizeLine) = True := eq_true (by rw [sizeLine_eq]; decide)
theorem szle10 : ((10 : Nat) ≤ sizeLine) = True := eq_true (sz (by decide))
theorem szlt10 : ((10 : Nat) < sizeLine) = True := eq_true (by rw [sizeLine_eq]; decide)
theorem szle11 : ((11 : Nat) ≤ sizeLine) = True := eq_true (sz (by decide))
theorem szlt11 : ((11 : Nat) < sizeLine) = True := eq_true (by rw [sizeLine_eq]; decide)
theorem szle12 : ((12 : Nat) ≤ sizeLine) = True := eq_true (sz (by decide))
theorem szlt12 : ((12 : Nat) < sizeLine) = True := eq_true (by rw [sizeLine_eq]; decide)
theorem szle13 : ((13 : Nat) ≤ sizeLine) = True := eq_true (sz (by decide))
theorem szlt13 : ((13 : Nat) < sizeLine) = True := eq_true (by rw [sizeLine_eq]; decide)
theorem szle14 : ((14 : Nat) ≤ sizeLine) = True := eq_true (sz (by decide))
theorem szlt14 : ((14 : Nat) < sizeLine) = True := eq_true (by rw [sizeLine_eq]; decide)
theorem szle15 : ((15 : Nat) ≤ sizeLine) = True := eq_true (sz (by decide))
theorem szlt15 : ((15 : Nat) < sizeLine) = True := eq_true (by rw [sizeLine_eq]; decide)
theorem szle16 : ((16 : Nat) ≤ sizeLine) = True := eq_true (sz (by decide))
theorem szlt16 : ((16 : Nat) < sizeLine) = True := eq_true (by rw [sizeLine_eq]; decide)
theorem szle17 : ((17 : Nat) ≤ sizeLine) = True := eq_true (sz (by decide))
theorem szlt17 : ((17 : Nat) < sizeLine) = True := eq_true (by rw [sizeLine_eq]; decide)
theorem szle18 : ((18 : Nat) ≤ sizeLine) = True := eq_true (sz (by decide))
theorem szlt18 : ((18 : Nat) < sizeLine) = True := eq_true (by rw [sizeLine_eq]; decide)
theorem szle19 : ((19 : Nat) ≤ sizeLine) = True := eq_true (sz (by decide))
theorem szlt19 : ((19 : Nat) < sizeLine) = True := eq_true (by rw [sizeLine_eq]; decide)
theorem szle20 : ((20 : Nat) ≤ sizeLine) = True := eq_true (sz (by decide))
theorem szlt20 : ((20 : Nat) < sizeLine) = True := eq_true (by rw [sizeLine_eq]; decide)
theorem szle21 : ((21 : Nat) ≤ sizeLine) = True := eq_true (sz (by decide))
theorem szlt21 : ((21 : Nat) < sizeLine) = True := eq_true (by rw [sizeLine_eq]; decide)
theorem szle22 : ((22 : Nat) ≤ sizeLine) = True := eq_true (sz (by decide))
theorem szlt22 : ((22 : Nat) < sizeLine) = True := eq_true (by rw [sizeLine_eq]; decide)
theorem szle23 : ((23 : Nat) ≤ sizeLine) = True := eq_true (sz (by decide))
theorem szlt23 : ((23 : Nat) < sizeLine) = True := eq_true (by rw [sizeLine_eq]; decide)
theorem szle24 : ((24 : Nat) ≤ sizeLine) = True := eq_true (sz (by decide))
theorem szlt24 : ((24 : Nat) < sizeLine) = True := eq_true (by rw [sizeLine_eq]; decide)
theorem szle25 : ((25 : Nat) ≤ sizeLine) = True := eq_true (sz (by decide))
theorem szlt25 : ((25 : Nat) < sizeLine) = True := eq_true (by rw [sizeLine_eq]; decide)
theorem szle26 : ((26 : Nat) ≤ sizeLine) = True := eq_true (sz (by decide))
theorem szlt26 : ((26 : Nat) < sizeLine) = True := eq_true (by rw [sizeLine_eq]; decide)
theorem szle27 : ((27 : Nat) ≤ sizeLine) = True := eq_true (sz (by decide))
theorem szlt27 : ((27 : Nat) < sizeLine) = True := eq_true (by rw [sizeLine_eq]; decide)
theorem szle28 : ((28 : Nat) ≤ sizeLine) = True := eq_true (sz (by decide))
theorem szlt28 : ((28 : Nat) < sizeLine) = True := eq_true (by rw [sizeLine_eq]; decide)
theorem szle29 : ((29 : Nat) ≤ sizeLine) = True := eq_true (sz (by decide))
theorem szlt29 : ((29 : Nat) < sizeLine) = True := eq_true (by rw [sizeLine_eq]; decide)
theorem szle30 : ((30 : Nat) ≤ sizeLine) = True := eq_true (sz (by decide))
theorem szlt30 : ((30 : Nat) < sizeLine) = True := eq_true (by rw [sizeLine_eq]; decide)
theorem cg_nil {bd : PD → En → R En} {c : En → R Bool} {e : En → R PD} {ρ : En} : compGo bd c e ρ [] = .ok [] := rfl
theorem cg_cons {bd : PD → En → R En} {c : En → R Bool} {e : En → R PD} {ρ : En} {x : PD} {xs : List PD} : compGo bd c e ρ (x :: xs) = (bd x ρ).bind fun ρ' => (c ρ').bind fun b => if b = true then (e ρ').bind fun d => (compGo bd c e ρ xs).bind fun ds => .ok (d :: ds) else compGo bd c e ρ xs := rfl
theorem bls_nil : bls? [] = some [] := rfl
theorem bls_cons {b : Bool} {r : List PD} : bls? (.bl b :: r) = (match bls? r with
    | some ns => some (b :: ns)
    | none => none) := rfl
end FS

set_option maxRecDepth 100000
set_option autoImplicit false
set_option maxHeartbeats 1000000
/-! A def that makes a pot: its new list is shown by the word. -/
namespace FS
open PySem PySem.Spec L2
theorem pot_fits {P : Program} {w : World} {mg : Str → Option Value} {base : Heap} {k : Kx} {lev : Nat} {x : Str} {m m' : List PD → R Sl} (h : Fits P w mg base k lev x m)
    (hm : ∀ ds, m' ds ≠ .st → m' ds = .ok (.v .pot) ∧ (m ds).All fun s => ∃ ns : List Int, s = .l (ns.map PD.int) ∧ k.P ns ∧ ns.length ≤ 9) : Fits P w mg base k lev x m' := by
  obtain ⟨f, fd, ps, F, hg, kp, hb, hl⟩ := h
  refine ⟨f, fd, ps, ⟨fun vs H Q E h => h.1, ?_⟩, hg, kp, hb, fun ds hd => hl ds fun z => ?_⟩
  · intro A outer s H args us vs Q E hr he hbi hv ⟨hlen, ds, p, rp, fr, q⟩
    have hd : m' ds ≠ .st := fun z => by rw [z] at q; exact q.elim
    obtain ⟨e1, e2⟩ := hm ds hd
    rw [e1] at q
    have q : ∀ v H', Same H H' → ResOk k p H H' (.v .pot) v → Q v H' := q
    let Q1 : VK := fun v H' => ∃ (a : Addr) (ns : List Int), v = .ref a ∧ H a = none ∧ H' a = some (.lst (ns.map V.int)) ∧ k.P ns ∧ ns.length ≤ 9 ∧ Q v (upd H' a (POT k.P a))
    have run := F.run A outer s H args us vs Q1 E hr he hbi hv ⟨hlen, ds, p, rp, fr, e2.tR fun t ⟨ns, et, pn, ln⟩ v H' tt r => ?_⟩
    · refine codeAny_mono run fun r s' hq => ?_
      cases r with
      | error e => exact hq
      | ok fl =>
        cases fl <;> try exact hq
        obtain ⟨v, H', os, ag, un, hok, rv, a, ns, ev, na, eH, pn, ln, qq⟩ := hq
        obtain ⟨z, its, n, rr, eo⟩ := hok a _ eH
        have mu : Mut (H' a) := by rw [eH]; exact True.intro
        have fresh : ∀ b o, s.heap.get? b = some o → H b = none → H' b = none := fun b o g1 g2 => un.free b o g1 g2 (by simp)
        have ne : ∀ b u, H b = some u → b ≠ a := fun b u e z => by rw [z, na] at e; cases e
        refine ⟨v, upd H' a (POT k.P a), os, ag, ⟨un.keep, un.slot, fun b o g1 g2 g3 => ?_, un.there, fun b xs e => ?_, fun b o u e => ?_, fun b pq e => ?_⟩, ?_, rv, qq⟩
        · have : b ≠ a := fun z => by
            have := fresh b o g1 g2
            rw [z, eH] at this; cases this
          rw [upd_ne this]; exact fresh b o g1 g2
        · rw [upd_ne (ne _ _ e)]; exact un.tups b xs e
        · rw [upd_ne (ne _ _ e)]; exact un.frzs b o u e
        · rw [upd_ne (ne _ _ e)]; exact un.tbls b pq e
        · refine hok.write (h' := s'.heap) mu (.inl rfl) (fun _ _ _ z => z) ⟨_, eo⟩ ?_
          exact ⟨⟨ns, its, n, pn, ln, rr, eo⟩, ⟨_, eo⟩, fun h1 h2 ⟨ns', its', n', p', l', r', e'⟩ k => ⟨ns', its', n', p', l', r', k _ e'⟩⟩
    · subst et
      obtain ⟨a, vs', rfl, na, ea, rr⟩ := r
      have ev := Reps.ints rr
      subst ev
      refine ⟨a, ns, rfl, na, ea, pn, ln, q _ _ (fun b u e => ?_) ?_⟩
      · have hb' : b ≠ a := fun z => by rw [z, na] at e; cases e
        rw [upd_ne hb']; exact tt _ _ e
      · show Rep k (part p (upd H' a (POT k.P a))) .pot (.ref a)
        simp only [Rep]
        exact ⟨a, rfl, by rw [part_eq (fr a na)]; exact upd_same⟩
  · have := (hm ds hd).2
    rw [z] at this
    exact R.all_st.mp this
end FS

set_option maxRecDepth 100000
set_option autoImplicit false
set_option maxHeartbeats 1000000
/-! The head's facts with the module's classes of refusals. -/
namespace FS
open PySem PySem.Spec L2
/-- class number i, by the names' list -/
def cvOf (K : PySem.W.Frag) (xs : List Str) (i : Nat) : Value := match xs[i]? with
  | some x => .ref (He.ga K x)
  | none => .none
def excB (K : PySem.W.Frag) (D : Addr) : Bool :=
  decide (PySem.W.findIn K (.ref D) "__getattribute__" = some (some (.builtin "BaseException.__getattribute__"))) && decide (PySem.W.findIn K (.ref D) "__getattr__" = some none) &&
  decide (PySem.W.subIn K (.ref D) (.type "BaseException") = some true) && PySem.W.hasDictIn K D && decide (PySem.W.findIn K (.ref D) "__class__" = some (some (.builtin "object.__class__"))) &&
  decide (PySem.W.specialIn K (.builtin "object.__class__") "__get__" = some (some (.builtin "getset_descriptor.__get__"))) && decide (PySem.W.takesIn K (.builtin "object.__class__") = some true) && decide (PySem.W.mroIn K D (.type "object") = some true)
theorem excB_ok {K : PySem.W.Frag} {D : Addr} (h : excB K D = true) : ExcC K D := by
  unfold excB at h
  simp only [Bool.and_eq_true, decide_eq_true_eq] at h
  obtain ⟨⟨⟨⟨⟨⟨⟨a, b⟩, c⟩, d⟩, e⟩, f⟩, g⟩, i⟩ := h
  exact ⟨a, b, c, d, e, f, g, i⟩
def clB1 (K : PySem.W.Frag) (x : Str) : Bool :=
  He.eqO (PySem.W.nsIn K mainGlobals x) (some (some (.ref (He.ga K x)))) && PySem.W.keepIn K (.ref (He.ga K x)) && PySem.W.excIn K (He.ga K x) PySem.HandSPX.veTail "ValueError.__new__" &&
  decide (PySem.W.subIn K (.ref (He.ga K x)) (.type "BaseException") = some true) && decide (PySem.W.typeIn K (.ref (He.ga K x)) = some (.type "type")) &&
  tyNs.all (fun n => decide (PySem.W.kitOne K (.type n) (.ref (He.ga K x)) = some false)) && excB K (He.ga K x) && decide (PySem.W.kitOne K (.ref (He.ga K x)) (.type "ValueError") = some true)
def clB2 (K : PySem.W.Frag) (xs : List Str) (sub : Nat → Nat → Bool) : Bool :=
  (List.range xs.length).all fun i => (List.range xs.length).all fun j => decide (PySem.W.kitOne K (cvOf K xs i) (cvOf K xs j) = some (sub i j)) && decide (PySem.W.exmOne K (cvOf K xs i) (cvOf K xs j) = some (sub i j))
def clB (K : PySem.W.Frag) (xs : List Str) (sub : Nat → Nat → Bool) : Bool := xs.all (clB1 K) && clB2 K xs sub
section
variable {K : PySem.W.Frag} {h : Heap} {mg : Str → Option Value} {xs : List Str} {sub : Nat → Nat → Bool}
theorem clB_pair (c : clB K xs sub = true) {i j : Nat} (hi : i < xs.length) (hj : j < xs.length) : PySem.W.kitOne K (cvOf K xs i) (cvOf K xs j) = some (sub i j) ∧ PySem.W.exmOne K (cvOf K xs i) (cvOf K xs j) = some (sub i j) := by
  unfold clB at c
  rw [Bool.and_eq_true] at c
  have c := c.2
  unfold clB2 at c
  rw [List.all_eq_true] at c
  have c := c i (List.mem_range.mpr hi)
  rw [List.all_eq_true] at c
  have c := c j (List.mem_range.mpr hj)
  simpa only [Bool.and_eq_true, decide_eq_true_eq] using c
theorem clB_one (X : K.In h) (G : h.Ns mainGlobals mg) (c : clB K xs sub = true) {i : Nat} {x : Str} (e : xs[i]? = some x) : ∃ C, cvOf K xs i = .ref C ∧ mg x = some (.ref C) ∧ PySem.W.keepIn K (.ref C) = true ∧ PySem.W.excIn K C PySem.HandSPX.veTail "ValueError.__new__" = true ∧
    PySem.W.subIn K (.ref C) (.type "BaseException") = some true ∧ PySem.W.typeIn K (.ref C) = some (.type "type") ∧
    (∀ n ∈ tyNs, PySem.W.kitOne K (.type n) (.ref C) = some false) ∧ ExcC K C ∧ PySem.W.kitOne K (.ref C) (.type "ValueError") = some true := by
  unfold clB at c
  rw [Bool.and_eq_true] at c
  have c := List.all_eq_true.mp c.1 x (List.mem_of_getElem? e)
  unfold clB1 at c
  simp only [Bool.and_eq_true, decide_eq_true_eq, List.all_eq_true] at c
  obtain ⟨⟨⟨⟨⟨⟨⟨a1, a2⟩, a3⟩, a4⟩, a5⟩, a6⟩, a7⟩, a8⟩ := c
  exact ⟨He.ga K x, by unfold cvOf; rw [e], PySem.W.mg_of X G (He.eqO_ok a1), a2, a3, a4, a5, a6, excB_ok a7, a8⟩
theorem clB_sub (c : clB K xs sub = true) : ∀ (i j : Nat) (x y : Str), xs[i]? = some x → xs[j]? = some y → PySem.W.kitOne K (cvOf K xs i) (cvOf K xs j) = some (sub i j) := fun i j x y e1 e2 =>
  (clB_pair c (List.getElem?_eq_some_iff.mp e1).1 (List.getElem?_eq_some_iff.mp e2).1).1
theorem clB_exm (c : clB K xs sub = true) : ∀ (i j : Nat), i < xs.length → j < xs.length → PySem.W.exmOne K (cvOf K xs i) (cvOf K xs j) = some (sub i j) := fun i j e1 e2 => (clB_pair c e1 e2).2
end
/-! constants of the module, as data -/
mutual
def cstB (K : PySem.W.Frag) : PD → Value → Bool
  | .int i, .int j _ => decide (j = i)
  | .str i, .str j _ => decide (j = i)
  | .bl i, .bool j => decide (j = i)
  | .non, .none => true
  | .tup ds, .ref a => (match K.lookup a with
    | some ⟨.type c, _, .seq its _, _⟩ => decide (c = "tuple") && (decide (its.size ≤ sizeLine) && cstsB K ds its.toList)
    | _ => false)
  | _, _ => false
def cstsB (K : PySem.W.Frag) : List PD → List Value → Bool
  | [], [] => true
  | d :: ds, u :: us => cstB K d u && cstsB K ds us
  | _, _ => false
end
def flatD : PD → Bool
  | .int _ => true
  | .str _ => true
  | .bl _ => true
  | .non => true
  | _ => false
mutual
theorem cstB_ok {k : Kx} (ht : k.tk = true) : ∀ (d : PD) (u : Value), cstB k.K d u = true → ∃ v, RelV v u ∧ Rep k (fun _ => none) d v
  | .int i, u, c => by
    cases u <;> simp only [cstB] at c <;> try cases c
    rename_i j t
    have e : j = i := of_decide_eq_true c
    subst e
    exact ⟨.int j, ⟨_, rfl⟩, Rep.int⟩
  | .str i, u, c => by
    cases u <;> simp only [cstB] at c <;> try cases c
    rename_i j t
    have e : j = i := of_decide_eq_true c
    subst e
    exact ⟨.str j, ⟨_, rfl⟩, Rep.str⟩
  | .bl i, u, c => by
    cases u <;> simp only [cstB] at c <;> try cases c
    rename_i j
    have e : j = i := of_decide_eq_true c
    subst e
    exact ⟨.bl j, rfl, by simp only [Rep]⟩
  | .non, u, c => by
    cases u <;> simp only [cstB] at c <;> try cases c
    exact ⟨.non, rfl, by simp only [Rep]⟩
  | .tup ds, u, c => by
    cases u <;> simp only [cstB] at c <;> try cases c
    rename_i a
    split at c
    · rename_i nm od its n os q
      rw [Bool.and_eq_true, Bool.and_eq_true] at c
      obtain ⟨c1, c2, c3⟩ := c
      obtain ⟨vs, h1, h2⟩ := cstsB_ok ht ds its.toList c3
      refine ⟨.ref a, rfl, ?_⟩
      simp only [Rep]
      exact ⟨a, vs, rfl, .inr ⟨ht, .inr ⟨_, its, n, q, congrArg Value.type (of_decide_eq_true c1), rfl, of_decide_eq_true c2, h1⟩⟩, h2⟩
    · cases c
  | .lst _, u, c => by cases u <;> simp only [cstB] at c <;> cases c
  | .dct _, u, c => by cases u <;> simp only [cstB] at c <;> cases c
  | .exn _, u, c => by cases u <;> simp only [cstB] at c <;> cases c
  | .pot, u, c => by cases u <;> simp only [cstB] at c <;> cases c
theorem cstsB_ok {k : Kx} (ht : k.tk = true) : ∀ (ds : List PD) (us : List Value), cstsB k.K ds us = true → ∃ vs, Vals vs us ∧ Reps k (fun _ => none) ds vs
  | [], us, c => by
    cases us with
    | nil => exact ⟨[], .nil, by simp only [Reps]⟩
    | cons _ _ => simp only [cstsB] at c; cases c
  | d :: ds, us, c => by
    cases us with
    | nil => simp only [cstsB] at c; cases c
    | cons u us =>
      simp only [cstsB, Bool.and_eq_true] at c
      obtain ⟨v, a1, a2⟩ := cstB_ok ht d u c.1
      obtain ⟨vs, b1, b2⟩ := cstsB_ok ht ds us c.2
      exact ⟨v :: vs, .cons a1 b1, by simp only [Reps]; exact ⟨v, vs, rfl, a2, b2⟩⟩
end
def gloB (K : PySem.W.Frag) : Str × PD → Bool := fun p => match p.2 with
  | .int i => (match PySem.W.nsIn K mainGlobals p.1 with
    | some (some (.int j _)) => decide (j = i)
    | _ => false)
  | .str i => (match PySem.W.nsIn K mainGlobals p.1 with
    | some (some (.str j _)) => decide (j = i)
    | _ => false)
  | .tup ds => (match PySem.W.nsIn K mainGlobals p.1 with
    | some (some u) => cstB K (.tup ds) u
    | _ => false)
  | _ => false
theorem gloB_ok {h : Heap} {mg : Str → Option Value} {k : Kx} {x : Str} {d : PD} (X : k.K.In h) (G : h.Ns mainGlobals mg) (ht : k.tk = true ∨ flatD d = true) (c : gloB k.K (x, d) = true) : ∃ v u, mg x = some u ∧ RelV v u ∧ Rep k (fun _ => none) d v := by
  unfold gloB at c
  dsimp only at c
  split at c <;> try cases c
  · split at c <;> try cases c
    rename_i i _ j t q
    have e : j = i := of_decide_eq_true c
    subst e
    exact ⟨.int j, .int j t, PySem.W.mg_of X G q, ⟨_, rfl⟩, Rep.int⟩
  · split at c <;> try cases c
    rename_i i _ j t q
    have e : j = i := of_decide_eq_true c
    subst e
    exact ⟨.str j, .str j t, PySem.W.mg_of X G q, ⟨_, rfl⟩, Rep.str⟩
  · split at c <;> try cases c
    rename_i ds _ u q
    have ht : k.tk = true := by
      rcases ht with ht | ht
      · exact ht
      · cases ht
    obtain ⟨v, h1, h2⟩ := cstB_ok ht _ u c
    exact ⟨v, u, PySem.W.mg_of X G q, h1, h2⟩
abbrev AlC : Type := He.AlD × Bool
def saysC (fa : List He.Fa) (fn : List He.DefD) (xs : List Str) (sub : Nat → Nat → Bool) (gl : List (Str × PD)) (K : PySem.W.Frag) : AlC := (He.obsD fa fn K, clB K xs sub && gl.all (gloB K))
def obsC (n : Nat) (fa : List He.Fa) (fn : List He.DefD) (xs : List Str) (sub : Nat → Nat → Bool) (gl : List (Str × PD)) (g : Addr → Option Obj) : AlC := saysC fa fn xs sub gl (He.frG g (He.asD g n))
def hookC (n : Nat) (fa : List He.Fa) (fn : List He.DefD) (xs : List Str) (sub : Nat → Nat → Bool) (gl : List (Str × PD)) : PySem.W.Hook where
  α := AlC
  obs := fun s => obsC n fa fn xs sub gl s.heap.get?
  val := fun _ => (He.valD fn, true)
  says := fun _ h => ∃ K : PySem.W.Frag, K.In h ∧ He.SaysD fa fn K ∧ clB K xs sub = true ∧ ∀ p ∈ gl, gloB K p = true
  of := fun _ _ e => ⟨_, He.frG_in, congrArg Prod.fst e, by
    have q : (clB _ xs sub && gl.all (gloB _)) = true := congrArg Prod.snd e
    rw [Bool.and_eq_true, List.all_eq_true] at q
    exact q⟩
  keeps := fun _ _ _ ⟨K, hK, c⟩ k => ⟨K, PySem.W.Frag.In.keeps hK k, c⟩
theorem obsC_eq {n : Nat} {fa : List He.Fa} {fn : List He.DefD} {xs : List Str} {sub : Nat → Nat → Bool} {gl : List (Str × PD)} {g : Addr → Option Obj} {s : Shared} (h : ∀ a, g a = s.heap.get? a) : obsC n fa fn xs sub gl g = (hookC n fa fn xs sub gl).obs s := by
  have e : g = s.heap.get? := funext h
  rw [e] <;> rfl
end FS
namespace FS
open PySem PySem.Spec L2
structure ClsAll (k : Kx) (mg : Str → Option Value) (xs : List Str) (sb : Nat → Nat → Bool) : Prop where
  sub : ∀ (i j : Nat) (x y : Str), xs[i]? = some x → xs[j]? = some y → PySem.W.kitOne k.K (k.cv i) (k.cv j) = some (sb i j)
  exm : ∀ (i j : Nat), i < xs.length → j < xs.length → PySem.W.exmOne k.K (k.cv i) (k.cv j) = some (sb i j)
  cls : ∀ (i : Nat) (x : Str), xs[i]? = some x → ∃ C, k.cv i = .ref C ∧ mg x = some (.ref C) ∧ PySem.W.keepIn k.K (.ref C) = true ∧ PySem.W.excIn k.K C PySem.HandSPX.veTail "ValueError.__new__" = true ∧
    PySem.W.subIn k.K (.ref C) (.type "BaseException") = some true ∧ PySem.W.typeIn k.K (.ref C) = some (.type "type") ∧
    (∀ n ∈ tyNs, PySem.W.kitOne k.K (.type n) (.ref C) = some false) ∧ ExcC k.K C ∧ PySem.W.kitOne k.K (.ref C) (.type "ValueError") = some true
theorem ClsAll.of {K : PySem.W.Frag} {h : Heap} {mg : Str → Option Value} {xs : List Str} {sub : Nat → Nat → Bool} {P : List Int → Prop} {t : Bool} (X : K.In h) (G : h.Ns mainGlobals mg) (c : clB K xs sub = true) : ClsAll { K := K, cv := cvOf K xs, P := P, tk := t } mg xs sub :=
  ⟨clB_sub c, clB_exm c, fun _ _ e => clB_one X G c e⟩
def GloAll (k : Kx) (mg : Str → Option Value) (xs : List Str) (g : Nat → PD) : Prop := ∀ (i : Nat) (x : Str), xs[i]? = some x → ∃ v u, mg x = some u ∧ RelV v u ∧ Rep k (fun _ => none) (g i) v
theorem GloAll.of {k : Kx} {h : Heap} {mg : Str → Option Value} {xs : List Str} {g : Nat → PD} {gl : List (Str × PD)} (X : k.K.In h) (G : h.Ns mainGlobals mg) (c : ∀ p ∈ gl, gloB k.K p = true) (ht : k.tk = true ∨ gl.all (fun p => flatD p.2) = true)
    (e1 : xs.length = gl.length) (e2 : ∀ (i : Nat) (x : Str), xs[i]? = some x → gl[i]? = some (x, g i)) : GloAll k mg xs g := fun i x e =>
  gloB_ok X G (ht.imp id fun (h : gl.all (fun p => flatD p.2) = true) => List.all_eq_true.mp h (x, g i) (List.mem_of_getElem? (e2 i x e))) (c _ (List.mem_of_getElem? (e2 i x e)))
end FS

set_option maxRecDepth 100000
set_option autoImplicit false
set_option maxHeartbeats 1000000
/-! Plain-law facts: equality of data, ranges, items by number, what may refuse. -/
namespace FS
open PySem PySem.Spec L2
mutual
/-- numbers, None, short texts, tuples and lists of these, at most so deep -/
def gd : Nat → PD → Bool
  | _, .int _ => true
  | _, .non => true
  | _, .str x => PyData.strOk x
  | n + 1, .tup xs => gds n xs
  | n + 1, .lst xs => gds n xs
  | _, _ => false
def gds : Nat → List PD → Bool
  | _, [] => true
  | n, x :: xs => gd n x && gds n xs
end
mutual
theorem gd_shape : ∀ (n : Nat) (d : PD), gd n d = true → d.py.canLay0 = true ∧ d.py.depth ≤ n
  | n, .int i, _ => ⟨by simp only [PD.py, PyData.canLay0], by simp only [PD.py, PyData.depth]; omega⟩
  | n, .non, _ => ⟨by simp only [PD.py, PyData.canLay0], by simp only [PD.py, PyData.depth]; omega⟩
  | n, .str x, h => ⟨by simp only [PD.py, PyData.canLay0]; simpa [gd] using h, by simp only [PD.py, PyData.depth]; omega⟩
  | n + 1, .tup xs, h => by
    have q := gds_shape n xs (by simpa [gd] using h)
    exact ⟨by simp only [PD.py, PyData.canLay0]; exact q.1, by simp only [PD.py, PyData.depth]; omega⟩
  | n + 1, .lst xs, h => by
    have q := gds_shape n xs (by simpa [gd] using h)
    exact ⟨by simp only [PD.py, PyData.canLay0]; exact q.1, by simp only [PD.py, PyData.depth]; omega⟩
  | 0, .tup _, h => by simp [gd] at h
  | 0, .lst _, h => by simp [gd] at h
  | n, .bl _, h => by cases n <;> simp [gd] at h
  | n, .dct _, h => by cases n <;> simp [gd] at h
  | n, .exn _, h => by cases n <;> simp [gd] at h
  | n, .pot, h => by cases n <;> simp [gd] at h
theorem gds_shape : ∀ (n : Nat) (ds : List PD), gds n ds = true → PyData.canLayAll0 (pys ds) = true ∧ PyData.depthAll (pys ds) ≤ n
  | n, [], _ => ⟨by simp only [pys, PyData.canLayAll0], by simp only [pys, PyData.depthAll]; omega⟩
  | n, x :: xs, h => by
    rw [gds, Bool.and_eq_true] at h
    have a := gd_shape n x h.1
    have b := gds_shape n xs h.2
    exact ⟨by simp only [pys, PyData.canLayAll0]; rw [a.1, b.1]; rfl, by simp only [pys, PyData.depthAll]; omega⟩
end
theorem gd_shaped {n : Nat} {d : PD} (hn : n ≤ 64) (h : gd n d = true) : SeqAt.shaped d.py = true := by
  have q := gd_shape n d h
  unfold SeqAt.shaped
  rw [Bool.and_eq_true]
  exact ⟨q.1, by simp only [decide_eq_true_eq]; omega⟩
mutual
theorem gd_eqv : ∀ (n m : Nat) (a b : PD), gd n a = true → gd m b = true → (PyData.eqv a.py b.py = true ↔ a = b)
  | n, m, .int i, b, _, h => by cases b <;> first | (cases m <;> simp [gd] at h; done) | simp [PD.py, PyData.eqv]
  | n, m, .non, b, _, h => by cases b <;> first | (cases m <;> simp [gd] at h; done) | simp [PD.py, PyData.eqv]
  | n, m, .str x, b, _, h => by cases b <;> first | (cases m <;> simp [gd] at h; done) | simp [PD.py, PyData.eqv]
  | n + 1, m, .tup xs, b, h1, h => by
    cases b <;> first | (cases m <;> simp [gd] at h; done) | (simp [PD.py, PyData.eqv]; done) | skip
    rename_i ys
    cases m with
    | zero => simp [gd] at h
    | succ m =>
      have q := gds_eqv n m xs ys (by simpa [gd] using h1) (by simpa [gd] using h)
      simp only [PD.py, PyData.eqv]
      rw [q]
      exact ⟨fun z => by rw [z], fun z => by injection z⟩
  | n + 1, m, .lst xs, b, h1, h => by
    cases b <;> first | (cases m <;> simp [gd] at h; done) | (simp [PD.py, PyData.eqv]; done) | skip
    rename_i ys
    cases m with
    | zero => simp [gd] at h
    | succ m =>
      have q := gds_eqv n m xs ys (by simpa [gd] using h1) (by simpa [gd] using h)
      simp only [PD.py, PyData.eqv]
      rw [q]
      exact ⟨fun z => by rw [z], fun z => by injection z⟩
  | 0, _, .tup _, _, h, _ => by simp [gd] at h
  | 0, _, .lst _, _, h, _ => by simp [gd] at h
  | n, _, .bl _, _, h, _ => by cases n <;> simp [gd] at h
  | n, _, .dct _, _, h, _ => by cases n <;> simp [gd] at h
  | n, _, .exn _, _, h, _ => by cases n <;> simp [gd] at h
  | n, _, .pot, _, h, _ => by cases n <;> simp [gd] at h
theorem gds_eqv : ∀ (n m : Nat) (a b : List PD), gds n a = true → gds m b = true → (PyData.eqvAll (pys a) (pys b) = true ↔ a = b)
  | n, m, [], [], _, _ => by simp [pys, PyData.eqvAll]
  | n, m, [], y :: ys, _, _ => by simp [pys, PyData.eqvAll]
  | n, m, x :: xs, [], _, _ => by simp [pys, PyData.eqvAll]
  | n, m, x :: xs, y :: ys, h1, h2 => by
    rw [gds, Bool.and_eq_true] at h1 h2
    simp only [pys, PyData.eqvAll, Bool.and_eq_true]
    rw [gd_eqv n m x y h1.1 h2.1, gds_eqv n m xs ys h1.2 h2.2, List.cons.injEq]
end
noncomputable instance (a b : PD) : Decidable (a = b) := Classical.propDecidable _
/-- data that is told apart as it stands -/
theorem eqS_gd {n : Nat} {a b : PD} (hn : n ≤ 64) (h1 : gd n a = true) (h2 : gd n b = true) : eqS a b = .ok (decide (a = b)) := by
  unfold eqS
  rw [gd_shaped hn h1, gd_shaped hn h2]
  have q := gd_eqv n n a b h1 h2
  show R.ok _ = _
  congr 1
  by_cases e : a = b
  · rw [q.mpr e, decide_eq_true e]
  · rw [decide_eq_false e]
    cases z : PyData.eqv a.py b.py with
    | false => rfl
    | true => exact absurd (q.mp z) e
theorem gds_ints (n : Nat) : ∀ ns : List Int, gds n (ns.map PD.int) = true
  | [] => by simp [gds]
  | x :: xs => by simp [gds, gd, gds_ints n xs]
theorem pd_pair {a b c d : Int} : (PD.tup [.int a, .int b] = .tup [.int c, .int d]) ↔ a = c ∧ b = d := by simp
theorem eqS_pair {a b c d : Int} : eqS (.tup [.int a, .int b]) (.tup [.int c, .int d]) = .ok (decide (a = c ∧ b = d)) := by
  rw [eqS_gd (n := 2) (by decide) (by simp [gd, gds]) (by simp [gd, gds])]
  congr 1
  simp
/-! ranges -/
theorem rng_up {n : Int} (h : smallI n) : rngS [PD.int n] = .ok (rngItems 0 n) := by
  show (if smallI n then R.ok (rngItems 0 n) else .st) = _
  rw [if_pos h]
theorem rng_two {i n : Int} (h1 : smallI i) (h : smallI n) : rngS [PD.int i, PD.int n] = .ok (rngItems i n) := by
  show (if smallI i ∧ smallI n then R.ok (rngItems i n) else .st) = _
  rw [if_pos ⟨h1, h⟩]
theorem smallI_of {n : Int} (h0 : 0 ≤ n) (h : n < 2 ^ 62) : smallI n := ⟨by omega, h⟩
theorem mem_rng {lo hi : Int} {y : PD} (h : y ∈ rngItems lo hi) : ∃ j : Int, y = .int j ∧ lo ≤ j ∧ j < hi := by
  unfold rngItems at h
  rw [List.mem_map] at h
  obtain ⟨i, hi, rfl⟩ := h
  rw [List.mem_range] at hi
  exact ⟨lo + i, rfl, by omega, by omega⟩
theorem len_rng {lo hi : Int} : (rngItems lo hi).length = (hi - lo).toNat := by
  unfold rngItems
  rw [List.length_map, List.length_range]
theorem at_ints {ns : List Int} {i : Int} (h0 : 0 ≤ i) (h : i < ns.length) : ∃ x, x ∈ ns ∧ ns[i.toNat]? = some x ∧ atI (ns.map PD.int) i = some (.int x) := by
  have hl : i.toNat < ns.length := by omega
  refine ⟨ns[i.toNat], List.getElem_mem hl, List.getElem?_eq_getElem hl, ?_⟩
  unfold atI ixN
  rw [if_pos h0, List.length_map, if_pos h]
  show (ns.map PD.int)[i.toNat]? = _
  rw [List.getElem?_map, List.getElem?_eq_getElem hl]
  rfl
/-! a refusal that is caught -/
theorem w_try_ex {g : Gs} {bd q : S} {c i e : Nat} {ρ ρ' : En} {N : En → Prop} {T : Sl → Prop} {B C : En → Prop} (hb : FS.run g bd ρ = .ex e ρ') (h1 : e < g.nc) (h2 : c < g.nc) (hs : g.sub e c = true)
    (h : (FS.run g q (ρ'.set i (some (.v (.exn e))))).Wp (fun ρ => N (ρ.set i none)) T (fun ρ => B (ρ.set i none)) (fun ρ => C (ρ.set i none))) : (FS.run g (.tryc bd c i q) ρ).Wp N T B C := by
  rw [FS.run, hb]
  show (if e < g.nc ∧ c < g.nc then _ else _ : Out).Wp N T B C
  rw [if_pos ⟨h1, h2⟩, if_pos hs, Out.wp_go]
  exact h.mono (fun _ z => Out.wp_nx.mpr z) (fun _ z => z) (fun _ z => Out.wp_bk.mpr z) (fun _ z => Out.wp_ct.mpr z)
theorem w_try_nx {g : Gs} {bd q : S} {c i : Nat} {ρ ρ' : En} {N : En → Prop} {T : Sl → Prop} {B C : En → Prop} (hb : FS.run g bd ρ = .nx ρ') (h : N ρ') : (FS.run g (.tryc bd c i q) ρ).Wp N T B C := by
  rw [FS.run, hb]
  exact Out.wp_nx.mpr h
theorem w_try_rt {g : Gs} {bd q : S} {c i : Nat} {ρ ρ' : En} {s : Sl} {N : En → Prop} {T : Sl → Prop} {B C : En → Prop} (hb : FS.run g bd ρ = .rt s ρ') (h : T s) : (FS.run g (.tryc bd c i q) ρ).Wp N T B C := by
  rw [FS.run, hb]
  exact Out.wp_rt.mpr h
theorem go_ex {n c b : En → Out} {e : Nat} {ρ : En} : (Out.ex e ρ).go n c b = .ex e ρ := rfl
theorem res_rt {s : Sl} {ρ : En} : (Out.rt s ρ).res = .ok s := rfl
theorem res_nx {ρ : En} : (Out.nx ρ).res = .ok (.v .non) := rfl
theorem res_ex {e : Nat} {ρ : En} : (Out.ex e ρ).res = .ex e := rfl
/-! by equations -/
theorem runW_nx {c : En → R Bool} {b : En → Out} (I : Nat → En → Prop) (F : En → Prop)
    (hs : ∀ n ρ, I n ρ → (c ρ = .ok true ∧ ∃ m ρ', n = m + 1 ∧ (b ρ = .nx ρ' ∨ b ρ = .ct ρ') ∧ ∃ j, j ≤ m ∧ I j ρ') ∨ (c ρ = .ok false ∧ F ρ)) :
    ∀ {f n : Nat} {ρ : En}, I n ρ → n < f → ∃ ρ', runW c b f ρ = .nx ρ' ∧ F ρ'
  | 0, n, ρ, _, l => by omega
  | f + 1, n, ρ, h, l => by
    rcases hs n ρ h with ⟨e, m, ρ', rfl, e2, j, hj, h2⟩ | ⟨e, h2⟩
    · obtain ⟨ρ2, e3, h3⟩ := runW_nx I F hs (f := f) h2 (by omega)
      refine ⟨ρ2, ?_, h3⟩
      rw [runW, e, R.out_ok, if_pos rfl]
      rcases e2 with e2 | e2 <;> rw [e2] <;> exact e3
    · refine ⟨ρ, ?_, h2⟩
      rw [runW, e]
      rfl
theorem runF_nx {t : Tg} {b : En → Out} (I : List PD → En → Prop) (hs : ∀ x xs ρ, I (x :: xs) ρ → ∃ ρ1 ρ2, bindT t x ρ = .ok ρ1 ∧ (b ρ1 = .nx ρ2 ∨ b ρ1 = .ct ρ2) ∧ I xs ρ2) :
    ∀ {ds : List PD} {ρ : En}, I ds ρ → ∃ ρ', runF t b ds ρ = .nx ρ' ∧ I [] ρ'
  | [], ρ, h => ⟨ρ, rfl, h⟩
  | x :: xs, ρ, h => by
    obtain ⟨ρ1, ρ2, e1, e2, h2⟩ := hs x xs ρ h
    obtain ⟨ρ3, e3, h3⟩ := runF_nx I hs h2
    refine ⟨ρ3, ?_, h3⟩
    rw [runF, e1, R.out_ok]
    rcases e2 with e2 | e2 <;> rw [e2] <;> exact e3
theorem den_eq {g : Gs} {n m : Nat} {s : S} {ds : List PD} (hl : ds.length = m) : den g n m s ds = (FS.run g s (start0 n ds)).res := by
  unfold den
  rw [if_pos hl]
theorem all_of_eq {α : Type} {r : R α} {v : α} {p : α → Prop} (e : r = .ok v) (h : p v) : r.All p := by rw [e]; exact R.all_ok.mpr h
/-- a comprehension whose items are told one by one -/
theorem comp_eq {bd : PD → En → R En} {c : En → R Bool} {e : En → R PD} {ρ : En} (f : PD → Option PD) : ∀ {xs : List PD}, (∀ x ∈ xs, ∃ ρ', bd x ρ = .ok ρ' ∧ ((c ρ' = .ok false ∧ f x = none) ∨ ∃ y, c ρ' = .ok true ∧ e ρ' = .ok y ∧ f x = some y)) →
    compGo bd c e ρ xs = .ok (xs.filterMap f)
  | [], _ => rfl
  | x :: xs, h => by
    obtain ⟨ρ', e1, q⟩ := h x (List.mem_cons_self ..)
    have ih := comp_eq (xs := xs) f fun y hy => h y (List.mem_cons_of_mem _ hy)
    rw [compGo, e1, R.bind_ok]
    rcases q with ⟨e2, e3⟩ | ⟨y, e2, e3, e4⟩
    · rw [e2, R.bind_ok, if_neg Bool.false_ne_true, ih, List.filterMap_cons_none e3]
    · rw [e2, R.bind_ok, if_pos rfl, e3, R.bind_ok, ih, List.filterMap_cons_some e4]
      rfl
theorem comp_map {bd : PD → En → R En} {c : En → R Bool} {e : En → R PD} {ρ : En} (f : PD → PD) {xs : List PD} (h : ∀ x ∈ xs, ∃ ρ', bd x ρ = .ok ρ' ∧ c ρ' = .ok true ∧ e ρ' = .ok (f x)) : compGo bd c e ρ xs = .ok (xs.map f) := by
  rw [comp_eq (fun x => some (f x)) fun x hx => by
    obtain ⟨ρ', e1, e2, e3⟩ := h x hx
    exact ⟨ρ', e1, .inr ⟨_, e2, e3, rfl⟩⟩]
  rw [List.filterMap_eq_map']
theorem bls_map (bs : List Bool) : bls? (bs.map PD.bl) = some bs := by
  induction bs with
  | nil => rfl
  | cons b bs ih => rw [List.map_cons, bls_cons, ih]
theorem ints_map (bs : List Int) : ints? (bs.map PD.int) = some bs := by
  induction bs with
  | nil => rfl
  | cons b bs ih => rw [List.map_cons, ints?, ih]
theorem r_tryc {g : Gs} {bd q : S} {c i : Nat} {ρ : En} : FS.run g (.tryc bd c i q) ρ = (FS.run g bd ρ).catch fun e ρ' => if e < g.nc ∧ c < g.nc then (if g.sub e c = true then (FS.run g q (ρ'.set i (some (.v (.exn e))))).go (fun ρ => .nx (ρ.set i none)) (fun ρ => .ct (ρ.set i none)) (fun ρ => .bk (ρ.set i none)) else .ex e ρ') else .st := by rw [FS.run]
theorem r_tryn {g : Gs} {bd q : S} {c : Nat} {ρ : En} : FS.run g (.tryn bd c q) ρ = (FS.run g bd ρ).catch fun e ρ' => if e < g.nc ∧ c < g.nc then (if g.sub e c = true then FS.run g q ρ' else .ex e ρ') else .st := by rw [FS.run]
theorem ca_ex {f : Nat → En → Out} {e : Nat} {ρ : En} : (Out.ex e ρ).catch f = f e ρ := rfl
theorem ca_nx {f : Nat → En → Out} {ρ : En} : (Out.nx ρ).catch f = .nx ρ := rfl
theorem ca_rt {f : Nat → En → Out} {s : Sl} {ρ : En} : (Out.rt s ρ).catch f = .rt s ρ := rfl
theorem run_wp {o o' : Out} {N : En → Prop} {T : Sl → Prop} {B C : En → Prop} (e : o = o') (h : o'.Wp N T B C) : o.Wp N T B C := by rw [e]; exact h
theorem w_fcons {t : Tg} {b : En → Out} {x : PD} {xs : List PD} {ρ : En} {N : En → Prop} {T : Sl → Prop} {B C : En → Prop} : (runF t b (x :: xs) ρ).Wp N T B C ↔ (bindT t x ρ).All fun ρ1 => (b ρ1).Wp (fun ρ2 => (runF t b xs ρ2).Wp N T B C) T N (fun ρ2 => (runF t b xs ρ2).Wp N T B C) := by
  rw [runF, Out.wp_out]
  have e : (fun ρ => (Out.nx ρ).Wp N T B C) = N := by funext ρ; exact propext Out.wp_nx
  simp only [Out.wp_go, e]
theorem w_fnil {t : Tg} {b : En → Out} {ρ : En} {N : En → Prop} {T : Sl → Prop} {B C : En → Prop} : (runF t b [] ρ).Wp N T B C ↔ N ρ := by
  rw [runF, Out.wp_nx]
theorem mem_cut {xs : List PD} {lo hi : Option Int} {x : PD} (h : x ∈ cutP xs lo hi) : x ∈ xs := List.mem_of_mem_drop (List.mem_of_mem_take h)
theorem mem_ints {ns : List Int} {x : PD} (h : x ∈ ns.map PD.int) : ∃ i : Int, x = .int i ∧ i ∈ ns := by
  rw [List.mem_map] at h
  obtain ⟨i, hi, rfl⟩ := h
  exact ⟨i, rfl, hi⟩
theorem len_cut_le {xs : List PD} {lo hi : Option Int} : (cutP xs lo hi).length ≤ xs.length := by
  unfold cutP
  rw [List.length_take, List.length_drop]
  omega
theorem rest_nil {g : Gs} {N : En → Prop} {T : Sl → Prop} {B C : En → Prop} {ρ : En} : Rest g .nil N T B C ρ ↔ N ρ := by
  rw [Rest, r_nil, Out.wp_nx]
theorem le_mul {a v : Int} (h : 0 ≤ a) (hv : 1 ≤ v) : a ≤ a * v := by
  have e : a * v = a * (v - 1) + a := by rw [Int.mul_sub, Int.mul_one]; omega
  have := Int.mul_nonneg h (show 0 ≤ v - 1 by omega)
  omega
theorem mul_le {a v : Int} (h : a ≤ 0) (hv : 1 ≤ v) : a * v ≤ a := by
  have := le_mul (a := -a) (v := v) (by omega) hv
  rw [Int.neg_mul] at this
  omega
section
variable {g : Gs} {ρ : En}
theorem u_max {n : Int} {ns : List PD} : uSem .max1 (.lst (.int n :: ns)) = match ints? ns with
    | some ms => .ok (.v (.int (maxL n ms)))
    | none => .st := by
  simp only [uSem, ints?]
  cases ints? ns <;> rfl
theorem u_min {n : Int} {ns : List PD} : uSem .min1 (.lst (.int n :: ns)) = match ints? ns with
    | some ms => .ok (.v (.int (minL n ms)))
    | none => .st := by
  simp only [uSem, ints?]
  cases ints? ns <;> rfl
theorem e_oget {i : Nat} {e : E} : ev g (.oget i e) ρ = match ρ[i]? with
    | some (some (.l ds)) => (asI (ev g e ρ)).bind fun j => match atI ds j with
      | some d => .ok (.v d)
      | none => .st
    | _ => .st := by first | (simp only [ev]; done) | (simp only [ev]; rfl)
theorem e_kin {n : Bool} {i : Nat} {e : E} : ev g (.kin n i e) ρ = match ρ[i]? with
    | some (some (.k t kvs)) => (asP (ev g e ρ)).bind fun x => if keyOk t x = true ∧ g.tk = false then .ok (.v (.bl (Bool.xor n (getP kvs x).isSome))) else .st
    | _ => .st := by first | (simp only [ev]; done) | (simp only [ev]; rfl)
theorem e_kget {i : Nat} {e : E} : ev g (.kget i e) ρ = match ρ[i]? with
    | some (some (.k t kvs)) => (asP (ev g e ρ)).bind fun x => if keyOk t x = true ∧ g.tk = false then (match getP kvs x with
      | some d => .ok (.v d)
      | none => .st) else .st
    | _ => .st := by first | (simp only [ev]; done) | (simp only [ev]; rfl)
theorem e_kgetd {i : Nat} {e d : E} : ev g (.kgetd i e d) ρ = match ρ[i]? with
    | some (some (.k t kvs)) => (asP (ev g e ρ)).bind fun x => (asP (ev g d ρ)).bind fun y => if keyOk t x = true ∧ g.tk = false then .ok (.v ((getP kvs x).getD y)) else .st
    | _ => .st := by first | (simp only [ev]; done) | (simp only [ev]; rfl)
theorem e_klen {i : Nat} : ev g (.klen i) ρ = match ρ[i]? with
    | some (some (.k _ kvs)) => .ok (.v (.int kvs.length))
    | _ => .st := by first | (simp only [ev]; done) | (simp only [ev]; rfl)
theorem e_sset {e : E} : ev g (.sset e) ρ = (asP (ev g e ρ)).bind fun x => match x with
    | .lst xs => (match tints? xs with
      | some L => if L.length < 64 ∧ L.all (fun ns => !ns.isEmpty) = true then .ok (.l ((lexSort (dedup L)).map tupI)) else .st
      | none => .st)
    | _ => .st := by first | (simp only [ev]; done) | (simp only [ev]; rfl)
theorem e_sortk {i : Nat} : ev g (.sortk i) ρ = match ρ[i]? with
    | some (some (.k true kvs)) => (match tints? (kvs.map (·.1)) with
      | some L => if L.all (fun ns => !ns.isEmpty) = true then .ok (.l ((lexSort L).map tupI)) else .st
      | none => .st)
    | _ => .st := by first | (simp only [ev]; done) | (simp only [ev]; rfl)
theorem r_kput {i : Nat} {ix e : E} : FS.run g (.kput i ix e) ρ = match ρ[i]? with
    | some (some (.k t kvs)) => (asP (ev g e ρ)).out ρ fun d => (asP (ev g ix ρ)).out ρ fun x => if keyOk t x = true ∧ g.tk = false ∧ kvs.length < sizeLine then .nx (ρ.set i (some (.k t (putP kvs x d)))) else .st
    | _ => .st := by first | (simp only [FS.run]; done) | (simp only [FS.run]; rfl)
theorem r_ins {i : Nat} {ix e : E} : FS.run g (.ins i ix e) ρ = match ρ[i]? with
    | some (some (.l ds)) => (asI (ev g ix ρ)).out ρ fun j => (asP (ev g e ρ)).out ρ fun d => if 0 ≤ j ∧ j < 2 ^ 62 ∧ ds.length < sizeLine then .nx (ρ.set i (some (.l (ds.take j.toNat ++ [d] ++ ds.drop j.toNat)))) else .st
    | _ => .st := by first | (simp only [FS.run]; done) | (simp only [FS.run]; rfl)
theorem r_ext {i : Nat} {e : E} : FS.run g (.ext i e) ρ = match ρ[i]? with
    | some (some (.l ds)) => (ev g e ρ).out ρ fun s => match s with
      | .l xs => if ds.length + xs.length ≤ sizeLine then .nx (ρ.set i (some (.l (ds ++ xs)))) else .st
      | _ => .st
    | _ => .st := by first | (simp only [FS.run]; done) | (simp only [FS.run]; rfl)
theorem r_put {i : Nat} {ix e : E} : FS.run g (.put i ix e) ρ = match ρ[i]? with
    | some (some (.l ds)) => (asP (ev g e ρ)).out ρ fun d => (asI (ev g ix ρ)).out ρ fun k => match ixN ds.length k with
      | some j => .nx (ρ.set i (some (.l (ds.set j d))))
      | none => .st
    | _ => .st := by first | (simp only [FS.run]; done) | (simp only [FS.run]; rfl)
theorem r_pop {j i : Nat} : FS.run g (.pop j i) ρ = match ρ[i]? with
    | some (some (.l ds)) => match ds.getLast? with
      | some d => if i = j then .st else .nx ((ρ.set i (some (.l ds.dropLast))).set j (some (.v d)))
      | none => .st
    | _ => .st := by first | (simp only [FS.run]; done) | (simp only [FS.run]; rfl)
theorem e_rev {a : E} : ev g (.rev a) ρ = (asP (ev g a ρ)).bind fun x => match x with
    | .lst xs => .ok (.l xs.reverse)
    | .tup xs => .ok (.v (.tup xs.reverse))
    | _ => .st := by first | (simp only [ev]; done) | (simp only [ev]; rfl)
end
theorem tints_map (L : List (List Int)) : tints? (L.map tupI) = some L := by
  induction L with
  | nil => rfl
  | cons ns L ih => rw [List.map_cons, tupI, tints?, ints_map, ih]
/-- a comprehension, told item by item -/
theorem ev_cp {α : Type} {g : Gs} {own : List (Str × Nat)} {t : Tg} {it cn e : E} {ρ : En} (emb : α → PD) (l : List α) (p : α → Bool) (f : α → PD) (hi : evi g it ρ = .ok (l.map emb)) (hz : l.length < sizeLine)
    (h : ∀ x ∈ l, ∃ ρ', bindT t (emb x) (wipeE ρ (own.map (·.2))) = .ok ρ' ∧ asB (ev g cn ρ') = .ok (p x) ∧ (p x = true → asP (ev g e ρ') = .ok (f x))) : ev g (.comp own t it cn e) ρ = .ok (.l ((l.filter p).map f)) := by
  have go : ∀ l : List α, (∀ x ∈ l, ∃ ρ', bindT t (emb x) (wipeE ρ (own.map (·.2))) = .ok ρ' ∧ asB (ev g cn ρ') = .ok (p x) ∧ (p x = true → asP (ev g e ρ') = .ok (f x))) →
      compGo (bindT t) (evB g cn) (evP g e) (wipeE ρ (own.map (·.2))) (l.map emb) = .ok ((l.filter p).map f) := by
    intro l
    induction l with
    | nil => intro _; rfl
    | cons x xs ih =>
      intro h
      obtain ⟨ρ', e1, e2, e3⟩ := h x (List.mem_cons_self ..)
      have i2 := ih fun y hy => h y (List.mem_cons_of_mem _ hy)
      rw [List.map_cons, compGo, e1, R.bind_ok]
      show (evB g cn ρ').bind _ = _
      rw [evB_at, e2, R.bind_ok]
      cases hp : p x with
      | true =>
        rw [if_pos rfl, evP_at, e3 hp, R.bind_ok, i2, List.filter_cons_of_pos hp]
        rfl
      | false => rw [if_neg Bool.false_ne_true, i2, List.filter_cons_of_neg (by rw [hp]; exact Bool.false_ne_true)]
  rw [e_comp, hi, R.bind_ok, if_pos (by rw [List.length_map]; exact hz), go l h, nox_ok, R.bind_ok]
theorem ev_map {α : Type} {g : Gs} {own : List (Str × Nat)} {t : Tg} {it e : E} {ρ : En} (emb : α → PD) (l : List α) (f : α → PD) (hi : evi g it ρ = .ok (l.map emb)) (hz : l.length < sizeLine)
    (h : ∀ x ∈ l, ∃ ρ', bindT t (emb x) (wipeE ρ (own.map (·.2))) = .ok ρ' ∧ asP (ev g e ρ') = .ok (f x)) : ev g (.comp own t it (.lit (.bl true)) e) ρ = .ok (.l (l.map f)) := by
  rw [ev_cp emb l (fun _ => true) f hi hz fun x hx => by
    obtain ⟨ρ', e1, e2⟩ := h x hx
    exact ⟨ρ', e1, by rw [e_lit, asB_ok], fun _ => e2⟩]
  rw [List.filter_eq_self.mpr fun _ _ => rfl]
theorem rng_nat {n : Int} : rngItems 0 n = (List.range n.toNat).map fun (i : Nat) => PD.int i := by
  unfold rngItems
  rw [Int.sub_zero]
  exact List.map_congr_left fun i _ => by rw [Int.zero_add]
theorem keq_tupI (a b : List Int) : keq (tupI a) (tupI b) = decide (a = b) := by
  have e : ∀ l : List Int, tupI l = .tup ((l.map Sum.inl).map keyPD) := fun l => by
    unfold tupI
    rw [List.map_map]
    rfl
  rw [e, e, keq_tup]
  congr 1
  refine propext ⟨fun h => ?_, fun h => by rw [h]⟩
  exact (List.map_inj_right (fun x y z => Sum.inl.inj z)).mp h
/-- a dict that holds the same at all its keys -/
theorem put_set (L : List (List Int)) (r : List Int) (d : PD) : ∃ L' : List (List Int), putP (L.map fun r => (tupI r, d)) (tupI r) d = L'.map (fun r => (tupI r, d)) ∧ (∀ x, x ∈ L' ↔ x ∈ L ∨ x = r) ∧ L'.length ≤ L.length + 1 ∧ (L.Nodup → L'.Nodup) := by
  unfold putP
  by_cases h : ((L.map fun r => (tupI r, d)).any fun p => keq p.1 (tupI r)) = true
  · refine ⟨L, ?_, fun x => ⟨.inl, fun z => ?_⟩, by omega, id⟩
    · rw [if_pos h, List.map_map]
      refine List.map_congr_left fun x _ => ?_
      show (if keq (tupI x) (tupI r) = true then (tupI x, d) else (tupI x, d)) = _
      split <;> rfl
    · rcases z with z | z
      · exact z
      · obtain ⟨p, hp, e⟩ := List.any_eq_true.mp h
        obtain ⟨y, hy, rfl⟩ := List.mem_map.mp hp
        have e : keq (tupI y) (tupI r) = true := e
        rw [keq_tupI, decide_eq_true_eq] at e
        rw [z, ← e]; exact hy
  · refine ⟨L ++ [r], ?_, fun x => ?_, by simp, fun nd => ?_⟩
    · rw [if_neg h, List.map_append]; rfl
    · rw [List.mem_append, List.mem_singleton]
    · refine List.nodup_append.mpr ⟨nd, by simp, fun a ha b hb e => ?_⟩
      rw [List.mem_singleton] at hb
      subst hb
      subst e
      refine h (List.any_eq_true.mpr ⟨_, List.mem_map.mpr ⟨a, ha, rfl⟩, ?_⟩)
      show keq (tupI a) (tupI a) = true
      rw [keq_tupI]; simp
theorem ev_map_ex {α : Type} {g : Gs} {own : List (Str × Nat)} {t : Tg} {it e : E} {ρ : En} {β : Type} (emb : α → PD) (eb : β → PD) (Q : α → β → Prop) (l : List α) (hi : evi g it ρ = .ok (l.map emb)) (hz : l.length < sizeLine)
    (h : ∀ x ∈ l, ∃ y, Q x y ∧ ∃ ρ', bindT t (emb x) (wipeE ρ (own.map (·.2))) = .ok ρ' ∧ asP (ev g e ρ') = .ok (eb y)) : ∃ ys : List β, ys.length = l.length ∧ (∀ y ∈ ys, ∃ x ∈ l, Q x y) ∧ ev g (.comp own t it (.lit (.bl true)) e) ρ = .ok (.l (ys.map eb)) := by
  have go : ∀ l : List α, (∀ x ∈ l, ∃ y, Q x y ∧ ∃ ρ', bindT t (emb x) (wipeE ρ (own.map (·.2))) = .ok ρ' ∧ asP (ev g e ρ') = .ok (eb y)) →
      ∃ ys : List β, ys.length = l.length ∧ (∀ y ∈ ys, ∃ x ∈ l, Q x y) ∧ compGo (bindT t) (evB g (.lit (.bl true))) (evP g e) (wipeE ρ (own.map (·.2))) (l.map emb) = .ok (ys.map eb) := by
    intro l
    induction l with
    | nil => intro _; exact ⟨[], rfl, (fun _ h => nomatch h), rfl⟩
    | cons x xs ih =>
      intro h
      obtain ⟨y, q, ρ', e1, e2⟩ := h x (List.mem_cons_self ..)
      obtain ⟨ys, l1, l2, l3⟩ := ih fun z hz => h z (List.mem_cons_of_mem _ hz)
      refine ⟨y :: ys, by rw [List.length_cons, List.length_cons, l1], fun z hz => ?_, ?_⟩
      · rcases List.mem_cons.mp hz with w | w
        · exact ⟨x, List.mem_cons_self .., by rw [w]; exact q⟩
        · obtain ⟨u, hu, qu⟩ := l2 z w
          exact ⟨u, List.mem_cons_of_mem _ hu, qu⟩
      · rw [List.map_cons, compGo, e1, R.bind_ok]
        show (evB g (.lit (.bl true)) ρ').bind _ = _
        rw [evB_at, e_lit, asB_ok, R.bind_ok, if_pos rfl, evP_at, e2, R.bind_ok, l3]
        rfl
  obtain ⟨ys, l1, l2, l3⟩ := go l h
  exact ⟨ys, l1, l2, by rw [e_comp, hi, R.bind_ok, if_pos (by rw [List.length_map]; exact hz), l3, nox_ok, R.bind_ok]⟩
theorem cut_drop {α : Type} {f : α → PD} {ns : List α} {k : Nat} : cutP (ns.map f) (some (k : Int)) none = (ns.drop k).map f := by
  unfold cutP
  rw [List.length_map]
  have e1 : HT.sIx ns.length 0 (some (k : Int)) = min k ns.length := by unfold HT.sIx; simp; omega
  have e2 : HT.sIx ns.length ns.length none = ns.length := by unfold HT.sIx; rfl
  rw [e1, e2, ← List.map_drop, ← List.map_take]
  congr 1
  by_cases h : k ≤ ns.length
  · rw [Nat.min_eq_left h, List.take_of_length_le (by rw [List.length_drop]; omega)]
  · rw [Nat.min_eq_right (by omega), List.drop_of_length_le (by omega : ns.length ≤ ns.length), List.drop_of_length_le (by omega : ns.length ≤ k)]; simp
theorem cut_take {α : Type} {f : α → PD} {ns : List α} {k : Nat} : cutP (ns.map f) none (some (k : Int)) = (ns.take k).map f := by
  unfold cutP
  rw [List.length_map]
  have e1 : HT.sIx ns.length ns.length (some (k : Int)) = min k ns.length := by unfold HT.sIx; simp; omega
  have e2 : HT.sIx ns.length 0 none = 0 := by unfold HT.sIx; rfl
  rw [e1, e2, List.drop_zero, Nat.sub_zero, ← List.map_take]
  congr 1
  by_cases h : k ≤ ns.length
  · rw [Nat.min_eq_left h]
  · rw [Nat.min_eq_right (by omega), List.take_of_length_le (by omega), List.take_of_length_le (by omega)]
theorem bt_nm {i : Nat} {d : PD} {ρ : En} : bindT (.nm i) d ρ = .ok (ρ.set i (some (.v d))) := rfl
theorem bt_tup {t : Tg} {ds : List PD} {ρ : En} : bindT (.tp t) (.tup ds) ρ = bindTs t ds ρ := rfl
theorem bt_lst {t : Tg} {ds : List PD} {ρ : En} : bindT (.tp t) (.lst ds) ρ = bindTs t ds ρ := rfl
theorem bts_nil {ρ : En} : bindTs .nil [] ρ = .ok ρ := rfl
theorem bts_cons {t ts : Tg} {d : PD} {ds : List PD} {ρ : En} : bindTs (.cons t ts) (d :: ds) ρ = (bindT t d ρ).bind fun ρ' => bindTs ts ds ρ' := rfl
/-- a comprehension whose items are drawn -/
theorem ev_map_all {α : Type} {g : Gs} {own : List (Str × Nat)} {t : Tg} {it e : E} {ρ : En} {β : Type} (emb : α → PD) (eb : β → PD) (Q : α → β → Prop) (l : List α) (hi : evi g it ρ = .ok (l.map emb)) (hz : l.length < sizeLine)
    (h : ∀ x ∈ l, ∃ ρ', bindT t (emb x) (wipeE ρ (own.map (·.2))) = .ok ρ' ∧ (asP (ev g e ρ')).All fun d => ∃ y, Q x y ∧ d = eb y) (P : Sl → Prop)
    (hP : ∀ ys : List β, ys.length = l.length → (∀ y ∈ ys, ∃ x ∈ l, Q x y) → P (.l (ys.map eb))) : (ev g (.comp own t it (.lit (.bl true)) e) ρ).All P := by
  have go : ∀ (l : List α) (P : List PD → Prop), (∀ x ∈ l, ∃ ρ', bindT t (emb x) (wipeE ρ (own.map (·.2))) = .ok ρ' ∧ (asP (ev g e ρ')).All fun d => ∃ y, Q x y ∧ d = eb y) →
      (∀ ys : List β, ys.length = l.length → (∀ y ∈ ys, ∃ x ∈ l, Q x y) → P (ys.map eb)) → (compGo (bindT t) (evB g (.lit (.bl true))) (evP g e) (wipeE ρ (own.map (·.2))) (l.map emb)).All P := by
    intro l
    induction l with
    | nil =>
      intro P _ hP
      rw [List.map_nil, compGo, R.all_ok]
      exact hP [] rfl (fun _ h => nomatch h)
    | cons x xs ih =>
      intro P h hP
      obtain ⟨ρ', e1, e2⟩ := h x (List.mem_cons_self ..)
      rw [List.map_cons, compGo, e1, R.bind_ok]
      show ((evB g (.lit (.bl true)) ρ').bind _).All _
      rw [evB_at, e_lit, asB_ok, R.bind_ok, if_pos rfl, evP_at, R.all_bind]
      refine e2.mono ?_
      rintro d ⟨y, q, rfl⟩
      rw [R.all_bind]
      refine ih _ (fun z hz => h z (List.mem_cons_of_mem _ hz)) fun ys l1 l2 => ?_
      rw [R.all_ok]
      refine hP (y :: ys) (by rw [List.length_cons, List.length_cons, l1]) fun z hz => ?_
      rcases List.mem_cons.mp hz with w | w
      · exact ⟨x, List.mem_cons_self .., by rw [w]; exact q⟩
      · obtain ⟨u, hu, qu⟩ := l2 z w
        exact ⟨u, List.mem_cons_of_mem _ hu, qu⟩
  rw [e_comp, hi, R.bind_ok, if_pos (by rw [List.length_map]; exact hz), R.all_bind, R.all_nox]
  refine go l _ h fun ys l1 l2 => ?_
  rw [R.all_ok]
  exact hP ys l1 l2
end FS

/-! law_k63_held_judged: the defs in the small language (printed by gen.py of mine) -/
namespace K63
open PySem PySem.Spec L2 FS
def cll : List Str := []
def gln : List Str := []
def gld (i : Nat) : PD := (([] : List PD)[i]?).getD .non
def subm (i j : Nat) : Bool := false
def slotL (ρ : En) (i : Nat) : Nat := match ρ[i]? with
  | some (some (.l ds)) => ds.length + 1
  | _ => 0
def potP (ns : List Int) : Prop := ∃ a b : Int, ns = [a, b] ∧ 0 ≤ a ∧ 0 ≤ b ∧ b < 2147483647
def prD (j : Int) : Option (Option Int) := if j = 0 then some none else if j = 1 then some (some 2147483647) else none
theorem prD_some {j : Int} {m : Option Int} (e : prD j = some m) : (m = none ∧ j = 0) ∨ (m = some 2147483647 ∧ j = 1) := by
  unfold prD at e
  by_cases h0 : j = 0
  · rw [if_pos h0] at e; cases e; exact .inl ⟨rfl, h0⟩
  · rw [if_neg h0] at e
    by_cases h1 : j = 1
    · rw [if_pos h1] at e; cases e; exact .inr ⟨rfl, h1⟩
    · rw [if_neg h1] at e; cases e
theorem pot_rd (ns : List Int) (h : potP ns) (j : Int) (m : Option Int) (e : prD j = some m) : ∃ n, atI (ns.map V.int) j = some (.int n) ∧ inR m n := by
  obtain ⟨a, b, rfl, ha, hb, hb2⟩ := h
  rcases prD_some e with ⟨rfl, rfl⟩ | ⟨rfl, rfl⟩
  · exact ⟨a, rfl, ha, fun _ e => by cases e⟩
  · exact ⟨b, rfl, hb, fun _ e => by cases e; exact hb2⟩
theorem pot_st (ns : List Int) (h : potP ns) (j n : Int) (m : Option Int) (e : prD j = some m) (r : inR m n) : ∃ i, ixN ns.length j = some i ∧ potP (ns.set i n) := by
  obtain ⟨a, b, rfl, ha, hb, hb2⟩ := h
  rcases prD_some e with ⟨rfl, rfl⟩ | ⟨rfl, rfl⟩
  · exact ⟨0, rfl, n, b, rfl, r.1, hb, hb2⟩
  · exact ⟨1, rfl, a, n, rfl, ha, r.1, r.2 _ rfl⟩
def fuel_law_row_0 : En → Nat := fun ρ => slotL ρ 4
def fuel_law_bent_0 : En → Nat := fun ρ => slotL ρ 3
def b_law_pot : S := (.seq (.set 2 (.lit (.int 5)))
    (.seq (.ifs (.b .lt (.var 1) (.u .len (.var 0)))
    (.seq (.set 2 (.b .mod (.b .idx (.var 0) (.var 1)) (.b .mul (.b .mul (.b .pow (.lit (.int 10)) (.lit (.int 60))) (.b .pow (.lit (.int 10)) (.lit (.int 60)))) (.b .pow (.lit (.int 10)) (.lit (.int 60))))))
    .nil)
    .nil)
    (.seq (.set 3 (.b .idx (.lst (.cons (.lit (.int 2147483629)) (.cons (.lit (.int 2147483587)) (.cons (.lit (.int 2147483579)) (.cons (.lit (.int 2147483563)) (.cons (.lit (.int 2147483549)) .nil)))))) (.b .mod (.var 1) (.lit (.int 5)))))
    (.seq (.ret (.lst (.cons (.b .max2 (.lit (.int 0)) (.b .sub (.var 2) (.b .pow (.lit (.int 10)) (.lit (.int 18))))) (.cons (.b .mod (.b .pow (.b .add (.b .add (.b .mod (.var 2) (.var 3)) (.b .mul (.lit (.int 7919)) (.var 1))) (.lit (.int 11))) (.lit (.int 3))) (.lit (.int 2147483647))) .nil))))
    .nil))))
def c_law_pot : Cc := ⟨["script", "k", "cell", "prime"], [], gln, cll, ["len", "max"], 1, [], false⟩
def g_law_pot : Gs := ⟨fun i => (([] : List (List PD → R Sl))[i]?).getD fun _ => .st, gld, subm, 0, fun _ => none, false⟩
@[irreducible] def d_law_pot : List PD → R Sl := den g_law_pot 4 2 b_law_pot
theorem q_law_pot : d_law_pot = den g_law_pot 4 2 b_law_pot := by unfold d_law_pot; rfl
theorem t_law_pot {z0 z1 : PD} : d_law_pot [z0, z1] = (FS.run g_law_pot b_law_pot [some (.v z0), some (.v z1), none, none]).res := by rw [q_law_pot]; rfl
def k_law_pot : List PD → Bool := fun ds => match ds with | [.lst xs, .int k] => (ints? xs).isSome && decide (xs.length ≤ 63) && decide (0 ≤ k) && decide (k ≤ 100) | _ => false
@[irreducible] def p_law_pot (ds : List PD) : R Sl := if k_law_pot ds = true then .ok (.v .pot) else .st
theorem pq_law_pot (ds : List PD) : p_law_pot ds = if k_law_pot ds = true then .ok (.v .pot) else .st := by unfold p_law_pot; rfl
def b_law_take : S := (.seq (.ifs (.b .gt (.pget 0 (.lit (.int 0))) (.lit (.int 0)))
    (.seq (.set 2 (.b .mod (.pget 0 (.lit (.int 0))) (.var 1)))
    (.seq (.pput 0 (.lit (.int 0)) (.b .fdiv (.pget 0 (.lit (.int 0))) (.var 1)))
    (.seq (.ret (.var 2))
    .nil)))
    .nil)
    (.seq (.pput 0 (.lit (.int 1)) (.b .mod (.b .add (.b .mul (.pget 0 (.lit (.int 1))) (.lit (.int 48271))) (.lit (.int 12820163))) (.lit (.int 2147483647))))
    (.seq (.ret (.b .mod (.b .fdiv (.b .mod (.b .pow (.pget 0 (.lit (.int 1))) (.lit (.int 3))) (.lit (.int 2147483629))) (.lit (.int 8))) (.var 1)))
    .nil)))
def c_law_take : Cc := ⟨["pot", "many", "found"], [], gln, cll, [], 1, [], false⟩
def g_law_take : Gs := ⟨fun i => (([] : List (List PD → R Sl))[i]?).getD fun _ => .st, gld, subm, 0, prD, false⟩
@[irreducible] def d_law_take : List PD → R Sl := den g_law_take 3 2 b_law_take
theorem q_law_take : d_law_take = den g_law_take 3 2 b_law_take := by unfold d_law_take; rfl
theorem t_law_take {z0 z1 : PD} : d_law_take [z0, z1] = (FS.run g_law_take b_law_take [some (.v z0), some (.v z1), none]).res := by rw [q_law_take]; rfl
def x_law_row_0 : E := (.comp [("k", 5)] (.nm 5) (.rng (.cons (.var 2) .nil)) (.lit (.bl true)) (.call 0 (.cons (.var 0) (.cons (.b .idx (.lst (.cons (.lit (.int 4)) (.cons (.lit (.int 40)) (.cons (.b .pow (.lit (.int 10)) (.lit (.int 6))) .nil)))) (.call 0 (.cons (.var 0) (.cons (.lit (.int 3)) .nil)))) .nil))))
def x_law_row_1 : E := (.comp [("k", 5)] (.nm 5) (.rng (.cons (.b .add (.var 2) (.call 0 (.cons (.var 0) (.cons (.b .add (.lit (.int 1)) (.b .mul (.lit (.int 2)) (.var 1))) .nil)))) .nil)) (.lit (.bl true)) (.call 0 (.cons (.var 0) (.cons (.lit (.int 30)) .nil))))
def w_law_row_0 : S := (.seq (.popd 4)
    .nil)
def b_law_row : S := (.seq (.set 2 (.b .add (.lit (.int 1)) (.call 0 (.cons (.var 0) (.cons (.var 1) .nil)))))
    (.seq (.set 3 x_law_row_0)
    (.seq (.own 4 x_law_row_1)
    (.seq (.whl fuel_law_row_0 (.bor (.and (.b .gt (.u .len (.var 4)) (.var 2)) (.b .eq (.b .idx (.var 4) (.u .neg (.lit (.int 1)))) (.b .add (.b .idx (.var 4) (.b .sub (.u .neg (.lit (.int 1))) (.var 2))) (.b .idx (.var 3) (.b .mod (.b .sub (.u .len (.var 4)) (.lit (.int 1))) (.var 2))))))) w_law_row_0)
    (.seq (.frz 4)
    (.seq (.ret (.tup (.cons (.u .tuple1 (.var 4)) (.cons (.u .tuple1 (.var 3)) .nil))))
    .nil))))))
def c_law_row : Cc := ⟨["pot", "most", "period", "rises", "shells", "k"], ["_law_take"], gln, cll, ["range", "len", "tuple"], 2, [], false⟩
def g_law_row : Gs := ⟨fun i => (([d_law_take] : List (List PD → R Sl))[i]?).getD fun _ => .st, gld, subm, 0, fun _ => none, false⟩
@[irreducible] def d_law_row : List PD → R Sl := den g_law_row 6 2 b_law_row
theorem q_law_row : d_law_row = den g_law_row 6 2 b_law_row := by unfold d_law_row; rfl
theorem t_law_row {z0 z1 : PD} : d_law_row [z0, z1] = (FS.run g_law_row b_law_row [some (.v z0), some (.v z1), none, none, none, none]).res := by rw [q_law_row]; rfl
theorem gf_law_row_0 : g_law_row.fn 0 = d_law_take := rfl
def w_law_bent_0 : S := (.seq (.popd 3)
    .nil)
def b_law_bent : S := (.seq (.unp (.tp (.cons (.nm 3) (.cons (.nm 5) .nil))) (.var 1))
    (.seq (.set 2 (.call 0 (.cons (.var 0) (.cons (.u .len (.var 3)) .nil))))
    (.seq (.own 3 (.u .list1 (.b .add (.b .add (.slc (.var 3) .no (.cons (.var 2) .no)) (.tup (.cons (.b .add (.b .idx (.var 3) (.var 2)) (.lit (.int 1))) .nil))) (.slc (.var 3) (.cons (.b .add (.var 2) (.lit (.int 1))) .no) .no))))
    (.seq (.set 4 (.u .len (.var 5)))
    (.seq (.whl fuel_law_bent_0 (.bor (.and (.b .gt (.u .len (.var 3)) (.var 4)) (.b .eq (.b .idx (.var 3) (.u .neg (.lit (.int 1)))) (.b .add (.b .idx (.var 3) (.b .sub (.u .neg (.lit (.int 1))) (.var 4))) (.b .idx (.var 5) (.b .mod (.b .sub (.u .len (.var 3)) (.lit (.int 1))) (.var 4))))))) w_law_bent_0)
    (.seq (.frz 3)
    (.seq (.ret (.tup (.cons (.u .tuple1 (.var 3)) (.cons (.var 5) .nil))))
    .nil)))))))
def c_law_bent : Cc := ⟨["pot", "row", "at", "shells", "period", "rises"], ["_law_take"], gln, cll, ["len", "list", "tuple"], 2, [], false⟩
def g_law_bent : Gs := ⟨fun i => (([d_law_take] : List (List PD → R Sl))[i]?).getD fun _ => .st, gld, subm, 0, fun _ => none, false⟩
@[irreducible] def d_law_bent : List PD → R Sl := den g_law_bent 6 2 b_law_bent
theorem q_law_bent : d_law_bent = den g_law_bent 6 2 b_law_bent := by unfold d_law_bent; rfl
theorem t_law_bent {z0 z1 : PD} : d_law_bent [z0, z1] = (FS.run g_law_bent b_law_bent [some (.v z0), some (.v z1), none, none, none, none]).res := by rw [q_law_bent]; rfl
theorem gf_law_bent_0 : g_law_bent.fn 0 = d_law_take := rfl
def b_enough_shells : S := (.seq (.set 2 (.lst (.cons (.u .len (.b .idx (.var 0) (.lit (.int 1)))) (.cons (.u .len (.b .idx (.var 1) (.lit (.int 1)))) .nil))))
    (.seq (.ret (.b .add (.b .sub (.b .max2 (.u .len (.b .idx (.var 0) (.lit (.int 0)))) (.u .len (.b .idx (.var 1) (.lit (.int 0))))) (.u .min1 (.var 2))) (.b .mul (.lit (.int 2)) (.u .sum (.var 2)))))
    .nil))
def c_enough_shells : Cc := ⟨["one", "other", "periods"], [], gln, cll, ["len", "max", "min", "sum"], 1, [], false⟩
def g_enough_shells : Gs := ⟨fun i => (([] : List (List PD → R Sl))[i]?).getD fun _ => .st, gld, subm, 0, fun _ => none, false⟩
@[irreducible] def d_enough_shells : List PD → R Sl := den g_enough_shells 3 2 b_enough_shells
theorem q_enough_shells : d_enough_shells = den g_enough_shells 3 2 b_enough_shells := by unfold d_enough_shells; rfl
theorem t_enough_shells {z0 z1 : PD} : d_enough_shells [z0, z1] = (FS.run g_enough_shells b_enough_shells [some (.v z0), some (.v z1), none]).res := by rw [q_enough_shells]; rfl
def b_row_shell : S := (.seq (.unp (.tp (.cons (.nm 3) (.cons (.nm 4) .nil))) (.var 0))
    (.seq (.ifs (.b .lt (.var 1) (.u .len (.var 3)))
    (.seq (.ret (.b .idx (.var 3) (.var 1)))
    .nil)
    .nil)
    (.seq (.set 2 (.b .add (.b .fdiv (.b .sub (.var 1) (.u .len (.var 3))) (.u .len (.var 4))) (.lit (.int 1))))
    (.seq (.ret (.b .add (.b .idx (.var 3) (.b .sub (.var 1) (.b .mul (.var 2) (.u .len (.var 4))))) (.b .mul (.var 2) (.b .idx (.var 4) (.b .mod (.var 1) (.u .len (.var 4)))))))
    .nil))))
def c_row_shell : Cc := ⟨["row", "n", "behind", "shells", "rises"], [], gln, cll, ["len"], 1, [], false⟩
def g_row_shell : Gs := ⟨fun i => (([] : List (List PD → R Sl))[i]?).getD fun _ => .st, gld, subm, 0, fun _ => none, false⟩
@[irreducible] def d_row_shell : List PD → R Sl := den g_row_shell 5 2 b_row_shell
theorem q_row_shell : d_row_shell = den g_row_shell 5 2 b_row_shell := by unfold d_row_shell; rfl
theorem t_row_shell {z0 z1 : PD} : d_row_shell [z0, z1] = (FS.run g_row_shell b_row_shell [some (.v z0), some (.v z1), none, none, none]).res := by rw [q_row_shell]; rfl
def w_rows_held_0 : S := (.seq (.set 4 (.call 1 (.cons (.var 0) (.cons (.var 3) .nil))))
    (.seq (.set 5 (.call 1 (.cons (.var 1) (.cons (.var 3) .nil))))
    (.seq (.ifs (.b .ne (.var 4) (.var 5))
    (.seq (.ret (.tup (.cons (.lit (.str "parted")) (.cons (.var 3) (.cons (.var 4) (.cons (.var 5) .nil))))))
    .nil)
    .nil)
    .nil)))
def b_rows_held : S := (.seq (.set 2 (.call 0 (.cons (.var 0) (.cons (.var 1) .nil))))
    (.seq (.fr (.nm 3) (.rng (.cons (.var 2) .nil)) w_rows_held_0)
    (.seq (.ret (.tup (.cons (.lit (.str "alike")) (.cons (.var 2) .nil))))
    .nil)))
def c_rows_held : Cc := ⟨["one", "other", "many", "n", "here", "there"], ["enough_shells", "row_shell"], gln, cll, ["range"], 2, [], false⟩
def g_rows_held : Gs := ⟨fun i => (([d_enough_shells, d_row_shell] : List (List PD → R Sl))[i]?).getD fun _ => .st, gld, subm, 0, fun _ => none, false⟩
@[irreducible] def d_rows_held : List PD → R Sl := den g_rows_held 6 2 b_rows_held
theorem q_rows_held : d_rows_held = den g_rows_held 6 2 b_rows_held := by unfold d_rows_held; rfl
theorem t_rows_held {z0 z1 : PD} : d_rows_held [z0, z1] = (FS.run g_rows_held b_rows_held [some (.v z0), some (.v z1), none, none, none, none]).res := by rw [q_rows_held]; rfl
theorem gf_rows_held_0 : g_rows_held.fn 0 = d_enough_shells := rfl
theorem gf_rows_held_1 : g_rows_held.fn 1 = d_row_shell := rfl
def b_held_right : S := (.seq (.ret (.b .eq (.call 0 (.cons (.var 0) (.cons (.var 1) .nil))) (.var 2)))
    .nil)
def c_held_right : Cc := ⟨["one", "other", "told"], ["rows_held"], gln, cll, [], 3, [], false⟩
def g_held_right : Gs := ⟨fun i => (([d_rows_held] : List (List PD → R Sl))[i]?).getD fun _ => .st, gld, subm, 0, fun _ => none, false⟩
@[irreducible] def d_held_right : List PD → R Sl := den g_held_right 3 3 b_held_right
theorem q_held_right : d_held_right = den g_held_right 3 3 b_held_right := by unfold d_held_right; rfl
theorem t_held_right {z0 z1 z2 : PD} : d_held_right [z0, z1, z2] = (FS.run g_held_right b_held_right [some (.v z0), some (.v z1), some (.v z2)]).res := by rw [q_held_right]; rfl
theorem gf_held_right_0 : g_held_right.fn 0 = d_rows_held := rfl
def b_law_shell : S := (.seq (.unp (.tp (.cons (.nm 3) (.cons (.nm 4) .nil))) (.var 0))
    (.seq (.set 2 (.lit (.int 0)))
    (.seq (.ifs (.b .ge (.var 1) (.u .len (.var 3)))
    (.seq (.set 2 (.b .add (.lit (.int 1)) (.b .fdiv (.b .sub (.var 1) (.u .len (.var 3))) (.u .len (.var 4)))))
    .nil)
    .nil)
    (.seq (.ret (.b .add (.b .idx (.var 3) (.b .sub (.var 1) (.b .mul (.var 2) (.u .len (.var 4))))) (.b .mul (.var 2) (.b .idx (.var 4) (.b .mod (.var 1) (.u .len (.var 4)))))))
    .nil))))
def c_law_shell : Cc := ⟨["row", "n", "back", "shells", "rises"], [], gln, cll, ["len"], 1, [], false⟩
def g_law_shell : Gs := ⟨fun i => (([] : List (List PD → R Sl))[i]?).getD fun _ => .st, gld, subm, 0, fun _ => none, false⟩
@[irreducible] def d_law_shell : List PD → R Sl := den g_law_shell 5 2 b_law_shell
theorem q_law_shell : d_law_shell = den g_law_shell 5 2 b_law_shell := by unfold d_law_shell; rfl
theorem t_law_shell {z0 z1 : PD} : d_law_shell [z0, z1] = (FS.run g_law_shell b_law_shell [some (.v z0), some (.v z1), none, none, none]).res := by rw [q_law_shell]; rfl
def w_law_others_0 : S := (.seq (.app 4 (.b .add (.b .add (.slc (.var 3) .no (.cons (.var 5) .no)) (.tup (.cons (.b .add (.b .idx (.var 3) (.var 5)) (.var 6)) .nil))) (.slc (.var 3) (.cons (.b .add (.var 5) (.lit (.int 1))) .no) .no)))
    .nil)
def w_law_others_1 : S := (.seq (.fr (.nm 6) (.seq (.lst (.cons (.lit (.int 1)) (.cons (.u .neg (.lit (.int 1))) (.cons (.b .pow (.lit (.int 10)) (.lit (.int 40))) (.cons (.b .sub (.b .mul (.u .neg (.lit (.int 2))) (.b .idx (.var 3) (.var 5))) (.lit (.int 1))) (.cons (.call 0 (.cons (.var 0) (.cons (.lit (.int 9)) .nil))) .nil))))))) w_law_others_0)
    .nil)
def w_law_others_2 : S := (.seq (.app 4 (.tup (.cons (.lit (.str "parted")) (.cons (.var 7) (.cons (.call 1 (.cons (.var 1) (.cons (.var 7) .nil))) (.cons (.call 1 (.cons (.var 2) (.cons (.var 7) .nil))) .nil))))))
    .nil)
def b_law_others : S := (.seq (.own 4 (.lst (.cons (.tup (.cons (.lit (.str "alike")) (.cons (.b .idx (.var 3) (.lit (.int 1))) .nil))) (.cons (.tup (.cons (.lit (.str "parted")) (.cons (.b .idx (.var 3) (.lit (.int 1))) (.cons (.lit (.int 0)) (.cons (.lit (.int 0)) .nil))))) (.cons (.tup (.cons (.lit (.str "")) (.cons (.b .idx (.var 3) (.lit (.int 1))) .nil))) .nil)))))
    (.seq (.fr (.nm 5) (.rng (.cons (.lit (.int 1)) (.cons (.u .len (.var 3)) .nil))) w_law_others_1)
    (.seq (.ifs (.b .eq (.u .len (.var 3)) (.lit (.int 4)))
    (.seq (.app 4 (.tup (.cons (.b .idx (.var 3) (.lit (.int 0))) (.cons (.b .idx (.var 3) (.lit (.int 1))) (.cons (.b .idx (.var 3) (.lit (.int 3))) (.cons (.b .idx (.var 3) (.lit (.int 2))) .nil))))))
    (.seq (.fr (.nm 7) (.rng (.cons (.b .add (.b .idx (.var 3) (.lit (.int 1))) (.lit (.int 1))) (.cons (.b .add (.b .idx (.var 3) (.lit (.int 1))) (.lit (.int 8))) .nil))) w_law_others_2)
    .nil))
    .nil)
    (.seq (.retm 4)
    .nil))))
def c_law_others : Cc := ⟨["pot", "one", "other", "told", "found", "at", "by", "n"], ["_law_take", "_law_shell"], gln, cll, ["range", "len"], 2, [], false⟩
def g_law_others : Gs := ⟨fun i => (([d_law_take, d_law_shell] : List (List PD → R Sl))[i]?).getD fun _ => .st, gld, subm, 0, fun _ => none, false⟩
@[irreducible] def d_law_others : List PD → R Sl := den g_law_others 8 4 b_law_others
theorem q_law_others : d_law_others = den g_law_others 8 4 b_law_others := by unfold d_law_others; rfl
theorem t_law_others {z0 z1 z2 z3 : PD} : d_law_others [z0, z1, z2, z3] = (FS.run g_law_others b_law_others [some (.v z0), some (.v z1), some (.v z2), some (.v z3), none, none, none, none]).res := by rw [q_law_others]; rfl
theorem gf_law_others_0 : g_law_others.fn 0 = d_law_take := rfl
theorem gf_law_others_1 : g_law_others.fn 1 = d_law_shell := rfl
def w_law_0 : S := (.seq (.set 8 (.call 5 (.cons (.var 3) (.cons (.var 4) (.cons (.var 7) .nil)))))
    (.seq (.ifs (.or (.not (.isi false [.bt "bool"] (.var 8))) (.or (.b .ne (.var 8) (.b .eq (.var 7) (.var 5))) (.b .ne (.u .strd (.lst (.cons (.var 3) (.cons (.var 4) (.cons (.var 5) .nil))))) (.var 6))))
    (.seq (.ret (.lit (.bl false)))
    .nil)
    .nil)
    .nil))
def r_law_0 : S := (.seq (.set 5 (.call 4 (.cons (.var 3) (.cons (.var 4) .nil))))
    (.seq (.set 6 (.u .strd (.lst (.cons (.var 3) (.cons (.var 4) (.cons (.var 5) .nil))))))
    (.seq (.ifs (.b .isn (.call 5 (.cons (.var 3) (.cons (.var 4) (.cons (.var 5) .nil)))) (.lit (.bl true)))
    (.seq (.ret (.lit (.bl false)))
    .nil)
    .nil)
    (.seq (.fr (.nm 7) (.seq (.call 6 (.cons (.var 2) (.cons (.var 3) (.cons (.var 4) (.cons (.var 5) .nil)))))) w_law_0)
    .nil))))
def w_law_1 : S := (.seq (.set 2 (.call 0 (.cons (.var 0) (.cons (.var 1) .nil))))
    (.seq (.set 3 (.call 1 (.cons (.var 2) (.cons (.lit (.int 6)) .nil))))
    (.seq (.set 4 (.b .idx (.lst (.cons (.call 1 (.cons (.var 2) (.cons (.lit (.int 6)) .nil))) (.cons (.var 3) (.cons (.call 2 (.cons (.var 2) (.cons (.var 3) .nil))) .nil)))) (.call 3 (.cons (.var 2) (.cons (.lit (.int 3)) .nil)))))
    r_law_0)))
def b_law : S := (.seq (.fr (.nm 1) (.rng (.cons (.b .max2 (.lit (.int 3)) (.b .min2 (.lit (.int 10)) (.u .len (.var 0)))) .nil)) w_law_1)
    (.seq (.ret (.lit (.bl true)))
    .nil))
def c_law : Cc := ⟨["script", "k", "pot", "one", "other", "told", "kept", "some", "found"], ["_law_pot", "_law_row", "_law_bent", "_law_take", "rows_held", "held_right", "_law_others"], gln, cll, ["range", "max", "min", "len", "str", "isinstance", "bool"], 4, [], true⟩
def g_law : Gs := ⟨fun i => (([p_law_pot, d_law_row, d_law_bent, d_law_take, d_rows_held, d_held_right, d_law_others] : List (List PD → R Sl))[i]?).getD fun _ => .st, gld, subm, 0, fun _ => none, false⟩
@[irreducible] def d_law : List PD → R Sl := den g_law 9 1 b_law
theorem q_law : d_law = den g_law 9 1 b_law := by unfold d_law; rfl
theorem t_law {z0 : PD} : d_law [z0] = (FS.run g_law b_law [some (.v z0), none, none, none, none, none, none, none, none]).res := by rw [q_law]; rfl
theorem gf_law_0 : g_law.fn 0 = p_law_pot := rfl
theorem gf_law_1 : g_law.fn 1 = d_law_row := rfl
theorem gf_law_2 : g_law.fn 2 = d_law_bent := rfl
theorem gf_law_3 : g_law.fn 3 = d_law_take := rfl
theorem gf_law_4 : g_law.fn 4 = d_rows_held := rfl
theorem gf_law_5 : g_law.fn 5 = d_held_right := rfl
theorem gf_law_6 : g_law.fn 6 = d_law_others := rfl
end K63
namespace K63
open PySem PySem.Spec L2 FS
theorem pw_ok (e : Int) (h : 0 ≤ e ∧ e ≤ 100) : powOk 10 e := ⟨h.1, by omega, by decide⟩
theorem take_all (many : Int) (h0 : 0 < many) (h1 : many ≤ 1000000000000000000000000000000000000000000000000000000000000) (P : Sl → Prop) (hP : ∀ r : Int, 0 ≤ r → r < many → P (.v (.int r))) : (d_law_take [.pot, .int many]).All P := by
  have dv : divOk many := divOk_of h0 (by omega)
  have d8 : divOk 8 := by decide
  have mn : ¬ (many = 0) := by omega
  have p0 : g_law_take.pr 0 = some none := rfl
  have p1 : g_law_take.pr 1 = some (some 2147483647) := rfl
  rw [q_law_take]
  refine den_all rfl ?_
  simp only [asP_v, asP_l, asP_k, asB_ok, asI_ok, nox_ok, b_add, b_adds, b_addt, b_addl, b_sub, b_mul, b_fdiv, b_mod, b_pow, b_eq, b_ne, b_lt, b_le, b_gt, b_ge, b_is, b_isn, b_inn, b_nin, b_idxl, b_idxt, b_max, b_min, u_neg, u_lenl, u_lent, u_abs, u_int, u_intb, u_tupl, u_tupt, u_lstl, u_lstt, u_str, u_strs, u_all, u_any, u_sum, seq_l, seq_t, seq_s, sl_l, sl_t, sl_s, is_NoneType_int, is_NoneType_bool, is_NoneType_tuple, is_NoneType_list, is_NoneType_str, is_bool_int, is_bool_bool, is_bool_tuple, is_bool_list, is_bool_str, is_int_int, is_int_bool, is_int_tuple, is_int_list, is_int_str, is_str_int, is_str_bool, is_str_tuple, is_str_list, is_str_str, is_tuple_int, is_tuple_bool, is_tuple_tuple, is_tuple_list, is_tuple_str, is_list_int, is_list_bool, is_list_tuple, is_list_list, is_list_str, is_dict_int, is_dict_bool, is_dict_tuple, is_dict_list, is_dict_str, R.all_ok, selE_t, selE_f, evB_at, evP_at, r_pass, r_set, r_own, r_frz, r_unp, r_par, r_app, r_popd, r_popa, r_swp, r_expr, r_ret, r_retm, r_retn, r_ifs, r_whl, r_fr, r_brk, r_cnt, r_raise, r_nil, e_var, e_lit, e_glo, e_u, e_b, e_isi, e_slc, e_rep, e_and, e_or, e_not, e_ite, e_chn, e_chn3, ch3_at, e_qcall, nox_ok, e_mth, e_mkx, mk_index, mk_join, mk_split, m_join, e_lrng, b_divm, e_tup, e_lst, e_call, e_comp, e_bor, e_d0, e_d1, e_pget, r_pput, u_max, u_min, e_oget, e_kin, e_kget, e_kgetd, e_klen, e_sset, e_sortk, r_kput, r_ins, r_ext, r_put, r_pop, e_rev, R.all_ask, es_nil, es_cons, eo_no, eo_yes, ei_seq, ei_rng, ei_zip, ei_enm, szle0, szlt0, szle1, szlt1, szle2, szlt2, szle3, szlt3, szle4, szlt4, szle5, szlt5, szle6, szlt6, szle7, szlt7, szle8, szlt8, szle9, szlt9, szle10, szlt10, szle11, szlt11, szle12, szlt12, szle13, szlt13, szle14, szlt14, szle15, szlt15, szle16, szlt16, szle17, szlt17, szle18, szlt18, szle19, szlt19, szle20, szlt20, szle21, szlt21, szle22, szlt22, szle23, szlt23, szle24, szlt24, szle25, szlt25, szle26, szlt26, szle27, szlt27, szle28, szlt28, szle29, szlt29, szle30, szlt30, Out.wp_nx, Out.wp_rt, Out.wp_bk, Out.wp_ct, eqS_int, isS_bl, R.bind_ok, R.out_ok, Sl.pd_v, Sl.pd_l, Sl.pd_k, List.set_cons_zero, List.set_cons_succ, List.getElem?_cons_zero, List.getElem?_cons_succ, List.getElem?_nil, Option.getD_some, Option.getD_none, if_true, Bool.false_eq_true, if_false, bt_nm, bt_tup, bt_lst, bts_nil, bts_cons, wipeE, start0, List.length_cons, List.length_nil, List.replicate, List.cons_append, List.nil_append, List.map_cons, List.map_nil, Nat.reduceAdd, Nat.reduceSub, Nat.zero_add, Bool.not_true, Bool.not_false, decide_true, decide_false, cg_nil, cg_cons, bls_nil, bls_cons, tst_at, cst_at, ch2_at, w_seq, w_sel, rest_nil, Out.wp_out, isB_ok, isI_ok, PD.flat, ne_eq, not_false_eq_true, Int.reduceEq, Int.reduceToNat, Int.reducePow, Int.reduceLT, Int.reduceLE, Int.reduceMul, Int.reduceAdd, Int.reduceSub, pow9, pow16, pow18, pow57, pow60, R.all_bind, R.all_nox, all_asP, all_asB, all_asI, b_law_take, p0]
  intro n hn
  by_cases hz : 0 < n
  · simp only [asP_v, asP_l, asP_k, asB_ok, asI_ok, nox_ok, b_add, b_adds, b_addt, b_addl, b_sub, b_mul, b_fdiv, b_mod, b_pow, b_eq, b_ne, b_lt, b_le, b_gt, b_ge, b_is, b_isn, b_inn, b_nin, b_idxl, b_idxt, b_max, b_min, u_neg, u_lenl, u_lent, u_abs, u_int, u_intb, u_tupl, u_tupt, u_lstl, u_lstt, u_str, u_strs, u_all, u_any, u_sum, seq_l, seq_t, seq_s, sl_l, sl_t, sl_s, is_NoneType_int, is_NoneType_bool, is_NoneType_tuple, is_NoneType_list, is_NoneType_str, is_bool_int, is_bool_bool, is_bool_tuple, is_bool_list, is_bool_str, is_int_int, is_int_bool, is_int_tuple, is_int_list, is_int_str, is_str_int, is_str_bool, is_str_tuple, is_str_list, is_str_str, is_tuple_int, is_tuple_bool, is_tuple_tuple, is_tuple_list, is_tuple_str, is_list_int, is_list_bool, is_list_tuple, is_list_list, is_list_str, is_dict_int, is_dict_bool, is_dict_tuple, is_dict_list, is_dict_str, R.all_ok, selE_t, selE_f, evB_at, evP_at, r_pass, r_set, r_own, r_frz, r_unp, r_par, r_app, r_popd, r_popa, r_swp, r_expr, r_ret, r_retm, r_retn, r_ifs, r_whl, r_fr, r_brk, r_cnt, r_raise, r_nil, e_var, e_lit, e_glo, e_u, e_b, e_isi, e_slc, e_rep, e_and, e_or, e_not, e_ite, e_chn, e_chn3, ch3_at, e_qcall, nox_ok, e_mth, e_mkx, mk_index, mk_join, mk_split, m_join, e_lrng, b_divm, e_tup, e_lst, e_call, e_comp, e_bor, e_d0, e_d1, e_pget, r_pput, u_max, u_min, e_oget, e_kin, e_kget, e_kgetd, e_klen, e_sset, e_sortk, r_kput, r_ins, r_ext, r_put, r_pop, e_rev, R.all_ask, es_nil, es_cons, eo_no, eo_yes, ei_seq, ei_rng, ei_zip, ei_enm, szle0, szlt0, szle1, szlt1, szle2, szlt2, szle3, szlt3, szle4, szlt4, szle5, szlt5, szle6, szlt6, szle7, szlt7, szle8, szlt8, szle9, szlt9, szle10, szlt10, szle11, szlt11, szle12, szlt12, szle13, szlt13, szle14, szlt14, szle15, szlt15, szle16, szlt16, szle17, szlt17, szle18, szlt18, szle19, szlt19, szle20, szlt20, szle21, szlt21, szle22, szlt22, szle23, szlt23, szle24, szlt24, szle25, szlt25, szle26, szlt26, szle27, szlt27, szle28, szlt28, szle29, szlt29, szle30, szlt30, Out.wp_nx, Out.wp_rt, Out.wp_bk, Out.wp_ct, eqS_int, isS_bl, R.bind_ok, R.out_ok, Sl.pd_v, Sl.pd_l, Sl.pd_k, List.set_cons_zero, List.set_cons_succ, List.getElem?_cons_zero, List.getElem?_cons_succ, List.getElem?_nil, Option.getD_some, Option.getD_none, if_true, Bool.false_eq_true, if_false, bt_nm, bt_tup, bt_lst, bts_nil, bts_cons, wipeE, start0, List.length_cons, List.length_nil, List.replicate, List.cons_append, List.nil_append, List.map_cons, List.map_nil, Nat.reduceAdd, Nat.reduceSub, Nat.zero_add, Bool.not_true, Bool.not_false, decide_true, decide_false, cg_nil, cg_cons, bls_nil, bls_cons, tst_at, cst_at, ch2_at, w_seq, w_sel, rest_nil, Out.wp_out, isB_ok, isI_ok, PD.flat, ne_eq, not_false_eq_true, Int.reduceEq, Int.reduceToNat, Int.reducePow, Int.reduceLT, Int.reduceLE, Int.reduceMul, Int.reduceAdd, Int.reduceSub, pow9, pow16, pow18, pow57, pow60, hz]
    (refine Rest.mk ?_; simp only [asP_v, asP_l, asP_k, asB_ok, asI_ok, nox_ok, b_add, b_adds, b_addt, b_addl, b_sub, b_mul, b_fdiv, b_mod, b_pow, b_eq, b_ne, b_lt, b_le, b_gt, b_ge, b_is, b_isn, b_inn, b_nin, b_idxl, b_idxt, b_max, b_min, u_neg, u_lenl, u_lent, u_abs, u_int, u_intb, u_tupl, u_tupt, u_lstl, u_lstt, u_str, u_strs, u_all, u_any, u_sum, seq_l, seq_t, seq_s, sl_l, sl_t, sl_s, is_NoneType_int, is_NoneType_bool, is_NoneType_tuple, is_NoneType_list, is_NoneType_str, is_bool_int, is_bool_bool, is_bool_tuple, is_bool_list, is_bool_str, is_int_int, is_int_bool, is_int_tuple, is_int_list, is_int_str, is_str_int, is_str_bool, is_str_tuple, is_str_list, is_str_str, is_tuple_int, is_tuple_bool, is_tuple_tuple, is_tuple_list, is_tuple_str, is_list_int, is_list_bool, is_list_tuple, is_list_list, is_list_str, is_dict_int, is_dict_bool, is_dict_tuple, is_dict_list, is_dict_str, R.all_ok, selE_t, selE_f, evB_at, evP_at, r_pass, r_set, r_own, r_frz, r_unp, r_par, r_app, r_popd, r_popa, r_swp, r_expr, r_ret, r_retm, r_retn, r_ifs, r_whl, r_fr, r_brk, r_cnt, r_raise, r_nil, e_var, e_lit, e_glo, e_u, e_b, e_isi, e_slc, e_rep, e_and, e_or, e_not, e_ite, e_chn, e_chn3, ch3_at, e_qcall, nox_ok, e_mth, e_mkx, mk_index, mk_join, mk_split, m_join, e_lrng, b_divm, e_tup, e_lst, e_call, e_comp, e_bor, e_d0, e_d1, e_pget, r_pput, u_max, u_min, e_oget, e_kin, e_kget, e_kgetd, e_klen, e_sset, e_sortk, r_kput, r_ins, r_ext, r_put, r_pop, e_rev, R.all_ask, es_nil, es_cons, eo_no, eo_yes, ei_seq, ei_rng, ei_zip, ei_enm, szle0, szlt0, szle1, szlt1, szle2, szlt2, szle3, szlt3, szle4, szlt4, szle5, szlt5, szle6, szlt6, szle7, szlt7, szle8, szlt8, szle9, szlt9, szle10, szlt10, szle11, szlt11, szle12, szlt12, szle13, szlt13, szle14, szlt14, szle15, szlt15, szle16, szlt16, szle17, szlt17, szle18, szlt18, szle19, szlt19, szle20, szlt20, szle21, szlt21, szle22, szlt22, szle23, szlt23, szle24, szlt24, szle25, szlt25, szle26, szlt26, szle27, szlt27, szle28, szlt28, szle29, szlt29, szle30, szlt30, Out.wp_nx, Out.wp_rt, Out.wp_bk, Out.wp_ct, eqS_int, isS_bl, R.bind_ok, R.out_ok, Sl.pd_v, Sl.pd_l, Sl.pd_k, List.set_cons_zero, List.set_cons_succ, List.getElem?_cons_zero, List.getElem?_cons_succ, List.getElem?_nil, Option.getD_some, Option.getD_none, if_true, Bool.false_eq_true, if_false, bt_nm, bt_tup, bt_lst, bts_nil, bts_cons, wipeE, start0, List.length_cons, List.length_nil, List.replicate, List.cons_append, List.nil_append, List.map_cons, List.map_nil, Nat.reduceAdd, Nat.reduceSub, Nat.zero_add, Bool.not_true, Bool.not_false, decide_true, decide_false, cg_nil, cg_cons, bls_nil, bls_cons, tst_at, cst_at, ch2_at, w_seq, w_sel, rest_nil, Out.wp_out, isB_ok, isI_ok, PD.flat, ne_eq, not_false_eq_true, Int.reduceEq, Int.reduceToNat, Int.reducePow, Int.reduceLT, Int.reduceLE, Int.reduceMul, Int.reduceAdd, Int.reduceSub, pow9, pow16, pow18, pow57, pow60, R.all_bind, R.all_nox, all_asP, all_asB, all_asI, p0, mn])
    intro i hi
    obtain ⟨r0, r1⟩ := fmod_range (i := i) h0
    (refine Rest.mk ?_; simp only [asP_v, asP_l, asP_k, asB_ok, asI_ok, nox_ok, b_add, b_adds, b_addt, b_addl, b_sub, b_mul, b_fdiv, b_mod, b_pow, b_eq, b_ne, b_lt, b_le, b_gt, b_ge, b_is, b_isn, b_inn, b_nin, b_idxl, b_idxt, b_max, b_min, u_neg, u_lenl, u_lent, u_abs, u_int, u_intb, u_tupl, u_tupt, u_lstl, u_lstt, u_str, u_strs, u_all, u_any, u_sum, seq_l, seq_t, seq_s, sl_l, sl_t, sl_s, is_NoneType_int, is_NoneType_bool, is_NoneType_tuple, is_NoneType_list, is_NoneType_str, is_bool_int, is_bool_bool, is_bool_tuple, is_bool_list, is_bool_str, is_int_int, is_int_bool, is_int_tuple, is_int_list, is_int_str, is_str_int, is_str_bool, is_str_tuple, is_str_list, is_str_str, is_tuple_int, is_tuple_bool, is_tuple_tuple, is_tuple_list, is_tuple_str, is_list_int, is_list_bool, is_list_tuple, is_list_list, is_list_str, is_dict_int, is_dict_bool, is_dict_tuple, is_dict_list, is_dict_str, R.all_ok, selE_t, selE_f, evB_at, evP_at, r_pass, r_set, r_own, r_frz, r_unp, r_par, r_app, r_popd, r_popa, r_swp, r_expr, r_ret, r_retm, r_retn, r_ifs, r_whl, r_fr, r_brk, r_cnt, r_raise, r_nil, e_var, e_lit, e_glo, e_u, e_b, e_isi, e_slc, e_rep, e_and, e_or, e_not, e_ite, e_chn, e_chn3, ch3_at, e_qcall, nox_ok, e_mth, e_mkx, mk_index, mk_join, mk_split, m_join, e_lrng, b_divm, e_tup, e_lst, e_call, e_comp, e_bor, e_d0, e_d1, e_pget, r_pput, u_max, u_min, e_oget, e_kin, e_kget, e_kgetd, e_klen, e_sset, e_sortk, r_kput, r_ins, r_ext, r_put, r_pop, e_rev, R.all_ask, es_nil, es_cons, eo_no, eo_yes, ei_seq, ei_rng, ei_zip, ei_enm, szle0, szlt0, szle1, szlt1, szle2, szlt2, szle3, szlt3, szle4, szlt4, szle5, szlt5, szle6, szlt6, szle7, szlt7, szle8, szlt8, szle9, szlt9, szle10, szlt10, szle11, szlt11, szle12, szlt12, szle13, szlt13, szle14, szlt14, szle15, szlt15, szle16, szlt16, szle17, szlt17, szle18, szlt18, szle19, szlt19, szle20, szlt20, szle21, szlt21, szle22, szlt22, szle23, szlt23, szle24, szlt24, szle25, szlt25, szle26, szlt26, szle27, szlt27, szle28, szlt28, szle29, szlt29, szle30, szlt30, Out.wp_nx, Out.wp_rt, Out.wp_bk, Out.wp_ct, eqS_int, isS_bl, R.bind_ok, R.out_ok, Sl.pd_v, Sl.pd_l, Sl.pd_k, List.set_cons_zero, List.set_cons_succ, List.getElem?_cons_zero, List.getElem?_cons_succ, List.getElem?_nil, Option.getD_some, Option.getD_none, if_true, Bool.false_eq_true, if_false, bt_nm, bt_tup, bt_lst, bts_nil, bts_cons, wipeE, start0, List.length_cons, List.length_nil, List.replicate, List.cons_append, List.nil_append, List.map_cons, List.map_nil, Nat.reduceAdd, Nat.reduceSub, Nat.zero_add, Bool.not_true, Bool.not_false, decide_true, decide_false, cg_nil, cg_cons, bls_nil, bls_cons, tst_at, cst_at, ch2_at, w_seq, w_sel, rest_nil, Out.wp_out, isB_ok, isI_ok, PD.flat, ne_eq, not_false_eq_true, Int.reduceEq, Int.reduceToNat, Int.reducePow, Int.reduceLT, Int.reduceLE, Int.reduceMul, Int.reduceAdd, Int.reduceSub, pow9, pow16, pow18, pow57, pow60, R.all_bind, R.all_nox, all_asP, all_asB, all_asI, p0, dv])
    intro j hj
    have : inR none (j.fdiv many) = True := eq_true ⟨fdiv_nonneg hj.1 (by omega), fun _ e => by cases e⟩
    simp only [asP_v, asP_l, asP_k, asB_ok, asI_ok, nox_ok, b_add, b_adds, b_addt, b_addl, b_sub, b_mul, b_fdiv, b_mod, b_pow, b_eq, b_ne, b_lt, b_le, b_gt, b_ge, b_is, b_isn, b_inn, b_nin, b_idxl, b_idxt, b_max, b_min, u_neg, u_lenl, u_lent, u_abs, u_int, u_intb, u_tupl, u_tupt, u_lstl, u_lstt, u_str, u_strs, u_all, u_any, u_sum, seq_l, seq_t, seq_s, sl_l, sl_t, sl_s, is_NoneType_int, is_NoneType_bool, is_NoneType_tuple, is_NoneType_list, is_NoneType_str, is_bool_int, is_bool_bool, is_bool_tuple, is_bool_list, is_bool_str, is_int_int, is_int_bool, is_int_tuple, is_int_list, is_int_str, is_str_int, is_str_bool, is_str_tuple, is_str_list, is_str_str, is_tuple_int, is_tuple_bool, is_tuple_tuple, is_tuple_list, is_tuple_str, is_list_int, is_list_bool, is_list_tuple, is_list_list, is_list_str, is_dict_int, is_dict_bool, is_dict_tuple, is_dict_list, is_dict_str, R.all_ok, selE_t, selE_f, evB_at, evP_at, r_pass, r_set, r_own, r_frz, r_unp, r_par, r_app, r_popd, r_popa, r_swp, r_expr, r_ret, r_retm, r_retn, r_ifs, r_whl, r_fr, r_brk, r_cnt, r_raise, r_nil, e_var, e_lit, e_glo, e_u, e_b, e_isi, e_slc, e_rep, e_and, e_or, e_not, e_ite, e_chn, e_chn3, ch3_at, e_qcall, nox_ok, e_mth, e_mkx, mk_index, mk_join, mk_split, m_join, e_lrng, b_divm, e_tup, e_lst, e_call, e_comp, e_bor, e_d0, e_d1, e_pget, r_pput, u_max, u_min, e_oget, e_kin, e_kget, e_kgetd, e_klen, e_sset, e_sortk, r_kput, r_ins, r_ext, r_put, r_pop, e_rev, R.all_ask, es_nil, es_cons, eo_no, eo_yes, ei_seq, ei_rng, ei_zip, ei_enm, szle0, szlt0, szle1, szlt1, szle2, szlt2, szle3, szlt3, szle4, szlt4, szle5, szlt5, szle6, szlt6, szle7, szlt7, szle8, szlt8, szle9, szlt9, szle10, szlt10, szle11, szlt11, szle12, szlt12, szle13, szlt13, szle14, szlt14, szle15, szlt15, szle16, szlt16, szle17, szlt17, szle18, szlt18, szle19, szlt19, szle20, szlt20, szle21, szlt21, szle22, szlt22, szle23, szlt23, szle24, szlt24, szle25, szlt25, szle26, szlt26, szle27, szlt27, szle28, szlt28, szle29, szlt29, szle30, szlt30, Out.wp_nx, Out.wp_rt, Out.wp_bk, Out.wp_ct, eqS_int, isS_bl, R.bind_ok, R.out_ok, Sl.pd_v, Sl.pd_l, Sl.pd_k, List.set_cons_zero, List.set_cons_succ, List.getElem?_cons_zero, List.getElem?_cons_succ, List.getElem?_nil, Option.getD_some, Option.getD_none, if_true, Bool.false_eq_true, if_false, bt_nm, bt_tup, bt_lst, bts_nil, bts_cons, wipeE, start0, List.length_cons, List.length_nil, List.replicate, List.cons_append, List.nil_append, List.map_cons, List.map_nil, Nat.reduceAdd, Nat.reduceSub, Nat.zero_add, Bool.not_true, Bool.not_false, decide_true, decide_false, cg_nil, cg_cons, bls_nil, bls_cons, tst_at, cst_at, ch2_at, w_seq, w_sel, rest_nil, Out.wp_out, isB_ok, isI_ok, PD.flat, ne_eq, not_false_eq_true, Int.reduceEq, Int.reduceToNat, Int.reducePow, Int.reduceLT, Int.reduceLE, Int.reduceMul, Int.reduceAdd, Int.reduceSub, pow9, pow16, pow18, pow57, pow60, p0, this]
    (refine Rest.mk ?_; simp only [asP_v, asP_l, asP_k, asB_ok, asI_ok, nox_ok, b_add, b_adds, b_addt, b_addl, b_sub, b_mul, b_fdiv, b_mod, b_pow, b_eq, b_ne, b_lt, b_le, b_gt, b_ge, b_is, b_isn, b_inn, b_nin, b_idxl, b_idxt, b_max, b_min, u_neg, u_lenl, u_lent, u_abs, u_int, u_intb, u_tupl, u_tupt, u_lstl, u_lstt, u_str, u_strs, u_all, u_any, u_sum, seq_l, seq_t, seq_s, sl_l, sl_t, sl_s, is_NoneType_int, is_NoneType_bool, is_NoneType_tuple, is_NoneType_list, is_NoneType_str, is_bool_int, is_bool_bool, is_bool_tuple, is_bool_list, is_bool_str, is_int_int, is_int_bool, is_int_tuple, is_int_list, is_int_str, is_str_int, is_str_bool, is_str_tuple, is_str_list, is_str_str, is_tuple_int, is_tuple_bool, is_tuple_tuple, is_tuple_list, is_tuple_str, is_list_int, is_list_bool, is_list_tuple, is_list_list, is_list_str, is_dict_int, is_dict_bool, is_dict_tuple, is_dict_list, is_dict_str, R.all_ok, selE_t, selE_f, evB_at, evP_at, r_pass, r_set, r_own, r_frz, r_unp, r_par, r_app, r_popd, r_popa, r_swp, r_expr, r_ret, r_retm, r_retn, r_ifs, r_whl, r_fr, r_brk, r_cnt, r_raise, r_nil, e_var, e_lit, e_glo, e_u, e_b, e_isi, e_slc, e_rep, e_and, e_or, e_not, e_ite, e_chn, e_chn3, ch3_at, e_qcall, nox_ok, e_mth, e_mkx, mk_index, mk_join, mk_split, m_join, e_lrng, b_divm, e_tup, e_lst, e_call, e_comp, e_bor, e_d0, e_d1, e_pget, r_pput, u_max, u_min, e_oget, e_kin, e_kget, e_kgetd, e_klen, e_sset, e_sortk, r_kput, r_ins, r_ext, r_put, r_pop, e_rev, R.all_ask, es_nil, es_cons, eo_no, eo_yes, ei_seq, ei_rng, ei_zip, ei_enm, szle0, szlt0, szle1, szlt1, szle2, szlt2, szle3, szlt3, szle4, szlt4, szle5, szlt5, szle6, szlt6, szle7, szlt7, szle8, szlt8, szle9, szlt9, szle10, szlt10, szle11, szlt11, szle12, szlt12, szle13, szlt13, szle14, szlt14, szle15, szlt15, szle16, szlt16, szle17, szlt17, szle18, szlt18, szle19, szlt19, szle20, szlt20, szle21, szlt21, szle22, szlt22, szle23, szlt23, szle24, szlt24, szle25, szlt25, szle26, szlt26, szle27, szlt27, szle28, szlt28, szle29, szlt29, szle30, szlt30, Out.wp_nx, Out.wp_rt, Out.wp_bk, Out.wp_ct, eqS_int, isS_bl, R.bind_ok, R.out_ok, Sl.pd_v, Sl.pd_l, Sl.pd_k, List.set_cons_zero, List.set_cons_succ, List.getElem?_cons_zero, List.getElem?_cons_succ, List.getElem?_nil, Option.getD_some, Option.getD_none, if_true, Bool.false_eq_true, if_false, bt_nm, bt_tup, bt_lst, bts_nil, bts_cons, wipeE, start0, List.length_cons, List.length_nil, List.replicate, List.cons_append, List.nil_append, List.map_cons, List.map_nil, Nat.reduceAdd, Nat.reduceSub, Nat.zero_add, Bool.not_true, Bool.not_false, decide_true, decide_false, cg_nil, cg_cons, bls_nil, bls_cons, tst_at, cst_at, ch2_at, w_seq, w_sel, rest_nil, Out.wp_out, isB_ok, isI_ok, PD.flat, ne_eq, not_false_eq_true, Int.reduceEq, Int.reduceToNat, Int.reducePow, Int.reduceLT, Int.reduceLE, Int.reduceMul, Int.reduceAdd, Int.reduceSub, pow9, pow16, pow18, pow57, pow60])
    exact hP _ r0 r1
  · simp only [asP_v, asP_l, asP_k, asB_ok, asI_ok, nox_ok, b_add, b_adds, b_addt, b_addl, b_sub, b_mul, b_fdiv, b_mod, b_pow, b_eq, b_ne, b_lt, b_le, b_gt, b_ge, b_is, b_isn, b_inn, b_nin, b_idxl, b_idxt, b_max, b_min, u_neg, u_lenl, u_lent, u_abs, u_int, u_intb, u_tupl, u_tupt, u_lstl, u_lstt, u_str, u_strs, u_all, u_any, u_sum, seq_l, seq_t, seq_s, sl_l, sl_t, sl_s, is_NoneType_int, is_NoneType_bool, is_NoneType_tuple, is_NoneType_list, is_NoneType_str, is_bool_int, is_bool_bool, is_bool_tuple, is_bool_list, is_bool_str, is_int_int, is_int_bool, is_int_tuple, is_int_list, is_int_str, is_str_int, is_str_bool, is_str_tuple, is_str_list, is_str_str, is_tuple_int, is_tuple_bool, is_tuple_tuple, is_tuple_list, is_tuple_str, is_list_int, is_list_bool, is_list_tuple, is_list_list, is_list_str, is_dict_int, is_dict_bool, is_dict_tuple, is_dict_list, is_dict_str, R.all_ok, selE_t, selE_f, evB_at, evP_at, r_pass, r_set, r_own, r_frz, r_unp, r_par, r_app, r_popd, r_popa, r_swp, r_expr, r_ret, r_retm, r_retn, r_ifs, r_whl, r_fr, r_brk, r_cnt, r_raise, r_nil, e_var, e_lit, e_glo, e_u, e_b, e_isi, e_slc, e_rep, e_and, e_or, e_not, e_ite, e_chn, e_chn3, ch3_at, e_qcall, nox_ok, e_mth, e_mkx, mk_index, mk_join, mk_split, m_join, e_lrng, b_divm, e_tup, e_lst, e_call, e_comp, e_bor, e_d0, e_d1, e_pget, r_pput, u_max, u_min, e_oget, e_kin, e_kget, e_kgetd, e_klen, e_sset, e_sortk, r_kput, r_ins, r_ext, r_put, r_pop, e_rev, R.all_ask, es_nil, es_cons, eo_no, eo_yes, ei_seq, ei_rng, ei_zip, ei_enm, szle0, szlt0, szle1, szlt1, szle2, szlt2, szle3, szlt3, szle4, szlt4, szle5, szlt5, szle6, szlt6, szle7, szlt7, szle8, szlt8, szle9, szlt9, szle10, szlt10, szle11, szlt11, szle12, szlt12, szle13, szlt13, szle14, szlt14, szle15, szlt15, szle16, szlt16, szle17, szlt17, szle18, szlt18, szle19, szlt19, szle20, szlt20, szle21, szlt21, szle22, szlt22, szle23, szlt23, szle24, szlt24, szle25, szlt25, szle26, szlt26, szle27, szlt27, szle28, szlt28, szle29, szlt29, szle30, szlt30, Out.wp_nx, Out.wp_rt, Out.wp_bk, Out.wp_ct, eqS_int, isS_bl, R.bind_ok, R.out_ok, Sl.pd_v, Sl.pd_l, Sl.pd_k, List.set_cons_zero, List.set_cons_succ, List.getElem?_cons_zero, List.getElem?_cons_succ, List.getElem?_nil, Option.getD_some, Option.getD_none, if_true, Bool.false_eq_true, if_false, bt_nm, bt_tup, bt_lst, bts_nil, bts_cons, wipeE, start0, List.length_cons, List.length_nil, List.replicate, List.cons_append, List.nil_append, List.map_cons, List.map_nil, Nat.reduceAdd, Nat.reduceSub, Nat.zero_add, Bool.not_true, Bool.not_false, decide_true, decide_false, cg_nil, cg_cons, bls_nil, bls_cons, tst_at, cst_at, ch2_at, w_seq, w_sel, rest_nil, Out.wp_out, isB_ok, isI_ok, PD.flat, ne_eq, not_false_eq_true, Int.reduceEq, Int.reduceToNat, Int.reducePow, Int.reduceLT, Int.reduceLE, Int.reduceMul, Int.reduceAdd, Int.reduceSub, pow9, pow16, pow18, pow57, pow60, hz]
    (refine Rest.mk ?_; simp only [asP_v, asP_l, asP_k, asB_ok, asI_ok, nox_ok, b_add, b_adds, b_addt, b_addl, b_sub, b_mul, b_fdiv, b_mod, b_pow, b_eq, b_ne, b_lt, b_le, b_gt, b_ge, b_is, b_isn, b_inn, b_nin, b_idxl, b_idxt, b_max, b_min, u_neg, u_lenl, u_lent, u_abs, u_int, u_intb, u_tupl, u_tupt, u_lstl, u_lstt, u_str, u_strs, u_all, u_any, u_sum, seq_l, seq_t, seq_s, sl_l, sl_t, sl_s, is_NoneType_int, is_NoneType_bool, is_NoneType_tuple, is_NoneType_list, is_NoneType_str, is_bool_int, is_bool_bool, is_bool_tuple, is_bool_list, is_bool_str, is_int_int, is_int_bool, is_int_tuple, is_int_list, is_int_str, is_str_int, is_str_bool, is_str_tuple, is_str_list, is_str_str, is_tuple_int, is_tuple_bool, is_tuple_tuple, is_tuple_list, is_tuple_str, is_list_int, is_list_bool, is_list_tuple, is_list_list, is_list_str, is_dict_int, is_dict_bool, is_dict_tuple, is_dict_list, is_dict_str, R.all_ok, selE_t, selE_f, evB_at, evP_at, r_pass, r_set, r_own, r_frz, r_unp, r_par, r_app, r_popd, r_popa, r_swp, r_expr, r_ret, r_retm, r_retn, r_ifs, r_whl, r_fr, r_brk, r_cnt, r_raise, r_nil, e_var, e_lit, e_glo, e_u, e_b, e_isi, e_slc, e_rep, e_and, e_or, e_not, e_ite, e_chn, e_chn3, ch3_at, e_qcall, nox_ok, e_mth, e_mkx, mk_index, mk_join, mk_split, m_join, e_lrng, b_divm, e_tup, e_lst, e_call, e_comp, e_bor, e_d0, e_d1, e_pget, r_pput, u_max, u_min, e_oget, e_kin, e_kget, e_kgetd, e_klen, e_sset, e_sortk, r_kput, r_ins, r_ext, r_put, r_pop, e_rev, R.all_ask, es_nil, es_cons, eo_no, eo_yes, ei_seq, ei_rng, ei_zip, ei_enm, szle0, szlt0, szle1, szlt1, szle2, szlt2, szle3, szlt3, szle4, szlt4, szle5, szlt5, szle6, szlt6, szle7, szlt7, szle8, szlt8, szle9, szlt9, szle10, szlt10, szle11, szlt11, szle12, szlt12, szle13, szlt13, szle14, szlt14, szle15, szlt15, szle16, szlt16, szle17, szlt17, szle18, szlt18, szle19, szlt19, szle20, szlt20, szle21, szlt21, szle22, szlt22, szle23, szlt23, szle24, szlt24, szle25, szlt25, szle26, szlt26, szle27, szlt27, szle28, szlt28, szle29, szlt29, szle30, szlt30, Out.wp_nx, Out.wp_rt, Out.wp_bk, Out.wp_ct, eqS_int, isS_bl, R.bind_ok, R.out_ok, Sl.pd_v, Sl.pd_l, Sl.pd_k, List.set_cons_zero, List.set_cons_succ, List.getElem?_cons_zero, List.getElem?_cons_succ, List.getElem?_nil, Option.getD_some, Option.getD_none, if_true, Bool.false_eq_true, if_false, bt_nm, bt_tup, bt_lst, bts_nil, bts_cons, wipeE, start0, List.length_cons, List.length_nil, List.replicate, List.cons_append, List.nil_append, List.map_cons, List.map_nil, Nat.reduceAdd, Nat.reduceSub, Nat.zero_add, Bool.not_true, Bool.not_false, decide_true, decide_false, cg_nil, cg_cons, bls_nil, bls_cons, tst_at, cst_at, ch2_at, w_seq, w_sel, rest_nil, Out.wp_out, isB_ok, isI_ok, PD.flat, ne_eq, not_false_eq_true, Int.reduceEq, Int.reduceToNat, Int.reducePow, Int.reduceLT, Int.reduceLE, Int.reduceMul, Int.reduceAdd, Int.reduceSub, pow9, pow16, pow18, pow57, pow60, R.all_bind, R.all_nox, all_asP, all_asB, all_asI, p1, mn])
    intro i hi
    have m1 : mulOk i 48271 := mulOk_r (by decide)
    have : inR (some 2147483647) ((i * 48271 + 12820163).fmod 2147483647) = True := eq_true ⟨(fmod_range (by decide)).1, fun b e => by cases e; exact (fmod_range (by decide)).2⟩
    simp only [asP_v, asP_l, asP_k, asB_ok, asI_ok, nox_ok, b_add, b_adds, b_addt, b_addl, b_sub, b_mul, b_fdiv, b_mod, b_pow, b_eq, b_ne, b_lt, b_le, b_gt, b_ge, b_is, b_isn, b_inn, b_nin, b_idxl, b_idxt, b_max, b_min, u_neg, u_lenl, u_lent, u_abs, u_int, u_intb, u_tupl, u_tupt, u_lstl, u_lstt, u_str, u_strs, u_all, u_any, u_sum, seq_l, seq_t, seq_s, sl_l, sl_t, sl_s, is_NoneType_int, is_NoneType_bool, is_NoneType_tuple, is_NoneType_list, is_NoneType_str, is_bool_int, is_bool_bool, is_bool_tuple, is_bool_list, is_bool_str, is_int_int, is_int_bool, is_int_tuple, is_int_list, is_int_str, is_str_int, is_str_bool, is_str_tuple, is_str_list, is_str_str, is_tuple_int, is_tuple_bool, is_tuple_tuple, is_tuple_list, is_tuple_str, is_list_int, is_list_bool, is_list_tuple, is_list_list, is_list_str, is_dict_int, is_dict_bool, is_dict_tuple, is_dict_list, is_dict_str, R.all_ok, selE_t, selE_f, evB_at, evP_at, r_pass, r_set, r_own, r_frz, r_unp, r_par, r_app, r_popd, r_popa, r_swp, r_expr, r_ret, r_retm, r_retn, r_ifs, r_whl, r_fr, r_brk, r_cnt, r_raise, r_nil, e_var, e_lit, e_glo, e_u, e_b, e_isi, e_slc, e_rep, e_and, e_or, e_not, e_ite, e_chn, e_chn3, ch3_at, e_qcall, nox_ok, e_mth, e_mkx, mk_index, mk_join, mk_split, m_join, e_lrng, b_divm, e_tup, e_lst, e_call, e_comp, e_bor, e_d0, e_d1, e_pget, r_pput, u_max, u_min, e_oget, e_kin, e_kget, e_kgetd, e_klen, e_sset, e_sortk, r_kput, r_ins, r_ext, r_put, r_pop, e_rev, R.all_ask, es_nil, es_cons, eo_no, eo_yes, ei_seq, ei_rng, ei_zip, ei_enm, szle0, szlt0, szle1, szlt1, szle2, szlt2, szle3, szlt3, szle4, szlt4, szle5, szlt5, szle6, szlt6, szle7, szlt7, szle8, szlt8, szle9, szlt9, szle10, szlt10, szle11, szlt11, szle12, szlt12, szle13, szlt13, szle14, szlt14, szle15, szlt15, szle16, szlt16, szle17, szlt17, szle18, szlt18, szle19, szlt19, szle20, szlt20, szle21, szlt21, szle22, szlt22, szle23, szlt23, szle24, szlt24, szle25, szlt25, szle26, szlt26, szle27, szlt27, szle28, szlt28, szle29, szlt29, szle30, szlt30, Out.wp_nx, Out.wp_rt, Out.wp_bk, Out.wp_ct, eqS_int, isS_bl, R.bind_ok, R.out_ok, Sl.pd_v, Sl.pd_l, Sl.pd_k, List.set_cons_zero, List.set_cons_succ, List.getElem?_cons_zero, List.getElem?_cons_succ, List.getElem?_nil, Option.getD_some, Option.getD_none, if_true, Bool.false_eq_true, if_false, bt_nm, bt_tup, bt_lst, bts_nil, bts_cons, wipeE, start0, List.length_cons, List.length_nil, List.replicate, List.cons_append, List.nil_append, List.map_cons, List.map_nil, Nat.reduceAdd, Nat.reduceSub, Nat.zero_add, Bool.not_true, Bool.not_false, decide_true, decide_false, cg_nil, cg_cons, bls_nil, bls_cons, tst_at, cst_at, ch2_at, w_seq, w_sel, rest_nil, Out.wp_out, isB_ok, isI_ok, PD.flat, ne_eq, not_false_eq_true, Int.reduceEq, Int.reduceToNat, Int.reducePow, Int.reduceLT, Int.reduceLE, Int.reduceMul, Int.reduceAdd, Int.reduceSub, pow9, pow16, pow18, pow57, pow60, p1, m1, this]
    (refine Rest.mk ?_; simp only [asP_v, asP_l, asP_k, asB_ok, asI_ok, nox_ok, b_add, b_adds, b_addt, b_addl, b_sub, b_mul, b_fdiv, b_mod, b_pow, b_eq, b_ne, b_lt, b_le, b_gt, b_ge, b_is, b_isn, b_inn, b_nin, b_idxl, b_idxt, b_max, b_min, u_neg, u_lenl, u_lent, u_abs, u_int, u_intb, u_tupl, u_tupt, u_lstl, u_lstt, u_str, u_strs, u_all, u_any, u_sum, seq_l, seq_t, seq_s, sl_l, sl_t, sl_s, is_NoneType_int, is_NoneType_bool, is_NoneType_tuple, is_NoneType_list, is_NoneType_str, is_bool_int, is_bool_bool, is_bool_tuple, is_bool_list, is_bool_str, is_int_int, is_int_bool, is_int_tuple, is_int_list, is_int_str, is_str_int, is_str_bool, is_str_tuple, is_str_list, is_str_str, is_tuple_int, is_tuple_bool, is_tuple_tuple, is_tuple_list, is_tuple_str, is_list_int, is_list_bool, is_list_tuple, is_list_list, is_list_str, is_dict_int, is_dict_bool, is_dict_tuple, is_dict_list, is_dict_str, R.all_ok, selE_t, selE_f, evB_at, evP_at, r_pass, r_set, r_own, r_frz, r_unp, r_par, r_app, r_popd, r_popa, r_swp, r_expr, r_ret, r_retm, r_retn, r_ifs, r_whl, r_fr, r_brk, r_cnt, r_raise, r_nil, e_var, e_lit, e_glo, e_u, e_b, e_isi, e_slc, e_rep, e_and, e_or, e_not, e_ite, e_chn, e_chn3, ch3_at, e_qcall, nox_ok, e_mth, e_mkx, mk_index, mk_join, mk_split, m_join, e_lrng, b_divm, e_tup, e_lst, e_call, e_comp, e_bor, e_d0, e_d1, e_pget, r_pput, u_max, u_min, e_oget, e_kin, e_kget, e_kgetd, e_klen, e_sset, e_sortk, r_kput, r_ins, r_ext, r_put, r_pop, e_rev, R.all_ask, es_nil, es_cons, eo_no, eo_yes, ei_seq, ei_rng, ei_zip, ei_enm, szle0, szlt0, szle1, szlt1, szle2, szlt2, szle3, szlt3, szle4, szlt4, szle5, szlt5, szle6, szlt6, szle7, szlt7, szle8, szlt8, szle9, szlt9, szle10, szlt10, szle11, szlt11, szle12, szlt12, szle13, szlt13, szle14, szlt14, szle15, szlt15, szle16, szlt16, szle17, szlt17, szle18, szlt18, szle19, szlt19, szle20, szlt20, szle21, szlt21, szle22, szlt22, szle23, szlt23, szle24, szlt24, szle25, szlt25, szle26, szlt26, szle27, szlt27, szle28, szlt28, szle29, szlt29, szle30, szlt30, Out.wp_nx, Out.wp_rt, Out.wp_bk, Out.wp_ct, eqS_int, isS_bl, R.bind_ok, R.out_ok, Sl.pd_v, Sl.pd_l, Sl.pd_k, List.set_cons_zero, List.set_cons_succ, List.getElem?_cons_zero, List.getElem?_cons_succ, List.getElem?_nil, Option.getD_some, Option.getD_none, if_true, Bool.false_eq_true, if_false, bt_nm, bt_tup, bt_lst, bts_nil, bts_cons, wipeE, start0, List.length_cons, List.length_nil, List.replicate, List.cons_append, List.nil_append, List.map_cons, List.map_nil, Nat.reduceAdd, Nat.reduceSub, Nat.zero_add, Bool.not_true, Bool.not_false, decide_true, decide_false, cg_nil, cg_cons, bls_nil, bls_cons, tst_at, cst_at, ch2_at, w_seq, w_sel, rest_nil, Out.wp_out, isB_ok, isI_ok, PD.flat, ne_eq, not_false_eq_true, Int.reduceEq, Int.reduceToNat, Int.reducePow, Int.reduceLT, Int.reduceLE, Int.reduceMul, Int.reduceAdd, Int.reduceSub, pow9, pow16, pow18, pow57, pow60, R.all_bind, R.all_nox, all_asP, all_asB, all_asI, p1, mn, d8])
    intro j hj
    have w1 : powOk j 3 := ⟨by decide, by decide, by have := hj.1; have := hj.2 _ rfl; omega⟩
    obtain ⟨r0, r1⟩ := fmod_range (i := ((j ^ 3).fmod 2147483629).fdiv 8) h0
    simp only [asP_v, asP_l, asP_k, asB_ok, asI_ok, nox_ok, b_add, b_adds, b_addt, b_addl, b_sub, b_mul, b_fdiv, b_mod, b_pow, b_eq, b_ne, b_lt, b_le, b_gt, b_ge, b_is, b_isn, b_inn, b_nin, b_idxl, b_idxt, b_max, b_min, u_neg, u_lenl, u_lent, u_abs, u_int, u_intb, u_tupl, u_tupt, u_lstl, u_lstt, u_str, u_strs, u_all, u_any, u_sum, seq_l, seq_t, seq_s, sl_l, sl_t, sl_s, is_NoneType_int, is_NoneType_bool, is_NoneType_tuple, is_NoneType_list, is_NoneType_str, is_bool_int, is_bool_bool, is_bool_tuple, is_bool_list, is_bool_str, is_int_int, is_int_bool, is_int_tuple, is_int_list, is_int_str, is_str_int, is_str_bool, is_str_tuple, is_str_list, is_str_str, is_tuple_int, is_tuple_bool, is_tuple_tuple, is_tuple_list, is_tuple_str, is_list_int, is_list_bool, is_list_tuple, is_list_list, is_list_str, is_dict_int, is_dict_bool, is_dict_tuple, is_dict_list, is_dict_str, R.all_ok, selE_t, selE_f, evB_at, evP_at, r_pass, r_set, r_own, r_frz, r_unp, r_par, r_app, r_popd, r_popa, r_swp, r_expr, r_ret, r_retm, r_retn, r_ifs, r_whl, r_fr, r_brk, r_cnt, r_raise, r_nil, e_var, e_lit, e_glo, e_u, e_b, e_isi, e_slc, e_rep, e_and, e_or, e_not, e_ite, e_chn, e_chn3, ch3_at, e_qcall, nox_ok, e_mth, e_mkx, mk_index, mk_join, mk_split, m_join, e_lrng, b_divm, e_tup, e_lst, e_call, e_comp, e_bor, e_d0, e_d1, e_pget, r_pput, u_max, u_min, e_oget, e_kin, e_kget, e_kgetd, e_klen, e_sset, e_sortk, r_kput, r_ins, r_ext, r_put, r_pop, e_rev, R.all_ask, es_nil, es_cons, eo_no, eo_yes, ei_seq, ei_rng, ei_zip, ei_enm, szle0, szlt0, szle1, szlt1, szle2, szlt2, szle3, szlt3, szle4, szlt4, szle5, szlt5, szle6, szlt6, szle7, szlt7, szle8, szlt8, szle9, szlt9, szle10, szlt10, szle11, szlt11, szle12, szlt12, szle13, szlt13, szle14, szlt14, szle15, szlt15, szle16, szlt16, szle17, szlt17, szle18, szlt18, szle19, szlt19, szle20, szlt20, szle21, szlt21, szle22, szlt22, szle23, szlt23, szle24, szlt24, szle25, szlt25, szle26, szlt26, szle27, szlt27, szle28, szlt28, szle29, szlt29, szle30, szlt30, Out.wp_nx, Out.wp_rt, Out.wp_bk, Out.wp_ct, eqS_int, isS_bl, R.bind_ok, R.out_ok, Sl.pd_v, Sl.pd_l, Sl.pd_k, List.set_cons_zero, List.set_cons_succ, List.getElem?_cons_zero, List.getElem?_cons_succ, List.getElem?_nil, Option.getD_some, Option.getD_none, if_true, Bool.false_eq_true, if_false, bt_nm, bt_tup, bt_lst, bts_nil, bts_cons, wipeE, start0, List.length_cons, List.length_nil, List.replicate, List.cons_append, List.nil_append, List.map_cons, List.map_nil, Nat.reduceAdd, Nat.reduceSub, Nat.zero_add, Bool.not_true, Bool.not_false, decide_true, decide_false, cg_nil, cg_cons, bls_nil, bls_cons, tst_at, cst_at, ch2_at, w_seq, w_sel, rest_nil, Out.wp_out, isB_ok, isI_ok, PD.flat, ne_eq, not_false_eq_true, Int.reduceEq, Int.reduceToNat, Int.reducePow, Int.reduceLT, Int.reduceLE, Int.reduceMul, Int.reduceAdd, Int.reduceSub, pow9, pow16, pow18, pow57, pow60, w1, mn, d8]
    exact hP _ r0 r1
theorem pot_law_pot (ds : List PD) (hd : p_law_pot ds ≠ .st) : p_law_pot ds = .ok (.v .pot) ∧ (d_law_pot ds).All fun s => ∃ ns : List Int, s = .l (ns.map PD.int) ∧ potP ns ∧ ns.length ≤ 9 := by
  rw [pq_law_pot] at hd ⊢
  by_cases hk : k_law_pot ds = true
  · rw [if_pos hk]
    refine ⟨rfl, ?_⟩
    obtain ⟨xs, k, rfl⟩ : ∃ xs k, ds = [.lst xs, .int k] := by
      unfold k_law_pot at hk
      split at hk
      · exact ⟨_, _, rfl⟩
      · cases hk
    have hk : ((ints? xs).isSome && decide (xs.length ≤ 63) && decide (0 ≤ k) && decide (k ≤ 100)) = true := hk
    simp only [Bool.and_eq_true, decide_eq_true_eq] at hk
    obtain ⟨⟨⟨k1, k2⟩, k3⟩, k4⟩ := hk
    obtain ⟨ns, en⟩ := Option.isSome_iff_exists.mp k1
    obtain rfl := ints?_eq en
    have p60 := pw_ok 60 (by decide)
    have p18 := pw_ok 18 (by decide)
    obtain ⟨pr, pr0, pr1, epr⟩ : ∃ p : Int, 1 ≤ p ∧ p ≤ 2147483647 ∧ atI [PD.int 2147483629, .int 2147483587, .int 2147483579, .int 2147483563, .int 2147483549] (k.fmod 5) = some (.int p) := by
      obtain ⟨h0, h1⟩ := fmod_range (i := k) (m := 5) (by decide)
      generalize k.fmod 5 = r at h0 h1
      have : r = 0 ∨ r = 1 ∨ r = 2 ∨ r = 3 ∨ r = 4 := by omega
      rcases this with rfl | rfl | rfl | rfl | rfl <;> exact ⟨_, by decide, by decide, rfl⟩
    have prn : ¬ (pr = 0) := by omega
    have m7 : mulOk 7919 k := mulOk_l (by decide)
    have mb : mulOk (10 ^ 60) (10 ^ 60) := mulOk_of 200 200 (by decide) (by decide)
    have fin : ∀ c : Int, ((if c - 1000000000000000000 > 0 then c - 1000000000000000000 else 0) ≥ 0) := fun c => by split <;> omega
    have rest : ∀ c : Int, Rest g_law_pot (.seq (.set 3 (.b .idx (.lst (.cons (.lit (.int 2147483629)) (.cons (.lit (.int 2147483587)) (.cons (.lit (.int 2147483579)) (.cons (.lit (.int 2147483563)) (.cons (.lit (.int 2147483549)) .nil)))))) (.b .mod (.var 1) (.lit (.int 5)))))
    (.seq (.ret (.lst (.cons (.b .max2 (.lit (.int 0)) (.b .sub (.var 2) (.b .pow (.lit (.int 10)) (.lit (.int 18))))) (.cons (.b .mod (.b .pow (.b .add (.b .add (.b .mod (.var 2) (.var 3)) (.b .mul (.lit (.int 7919)) (.var 1))) (.lit (.int 11))) (.lit (.int 3))) (.lit (.int 2147483647))) .nil))))
    .nil)) (fun _ => ∃ ns : List Int, (Sl.v PD.non) = .l (ns.map PD.int) ∧ potP ns ∧ ns.length ≤ 9) (fun s => ∃ ns : List Int, s = .l (ns.map PD.int) ∧ potP ns ∧ ns.length ≤ 9) (fun _ => False) (fun _ => False) [some (.v (.lst (ns.map PD.int))), some (.v (.int k)), some (.v (.int c)), none] := fun c => by
      (refine Rest.mk ?_; simp only [asP_v, asP_l, asP_k, asB_ok, asI_ok, nox_ok, b_add, b_adds, b_addt, b_addl, b_sub, b_mul, b_fdiv, b_mod, b_pow, b_eq, b_ne, b_lt, b_le, b_gt, b_ge, b_is, b_isn, b_inn, b_nin, b_idxl, b_idxt, b_max, b_min, u_neg, u_lenl, u_lent, u_abs, u_int, u_intb, u_tupl, u_tupt, u_lstl, u_lstt, u_str, u_strs, u_all, u_any, u_sum, seq_l, seq_t, seq_s, sl_l, sl_t, sl_s, is_NoneType_int, is_NoneType_bool, is_NoneType_tuple, is_NoneType_list, is_NoneType_str, is_bool_int, is_bool_bool, is_bool_tuple, is_bool_list, is_bool_str, is_int_int, is_int_bool, is_int_tuple, is_int_list, is_int_str, is_str_int, is_str_bool, is_str_tuple, is_str_list, is_str_str, is_tuple_int, is_tuple_bool, is_tuple_tuple, is_tuple_list, is_tuple_str, is_list_int, is_list_bool, is_list_tuple, is_list_list, is_list_str, is_dict_int, is_dict_bool, is_dict_tuple, is_dict_list, is_dict_str, R.all_ok, selE_t, selE_f, evB_at, evP_at, r_pass, r_set, r_own, r_frz, r_unp, r_par, r_app, r_popd, r_popa, r_swp, r_expr, r_ret, r_retm, r_retn, r_ifs, r_whl, r_fr, r_brk, r_cnt, r_raise, r_nil, e_var, e_lit, e_glo, e_u, e_b, e_isi, e_slc, e_rep, e_and, e_or, e_not, e_ite, e_chn, e_chn3, ch3_at, e_qcall, nox_ok, e_mth, e_mkx, mk_index, mk_join, mk_split, m_join, e_lrng, b_divm, e_tup, e_lst, e_call, e_comp, e_bor, e_d0, e_d1, e_pget, r_pput, u_max, u_min, e_oget, e_kin, e_kget, e_kgetd, e_klen, e_sset, e_sortk, r_kput, r_ins, r_ext, r_put, r_pop, e_rev, R.all_ask, es_nil, es_cons, eo_no, eo_yes, ei_seq, ei_rng, ei_zip, ei_enm, szle0, szlt0, szle1, szlt1, szle2, szlt2, szle3, szlt3, szle4, szlt4, szle5, szlt5, szle6, szlt6, szle7, szlt7, szle8, szlt8, szle9, szlt9, szle10, szlt10, szle11, szlt11, szle12, szlt12, szle13, szlt13, szle14, szlt14, szle15, szlt15, szle16, szlt16, szle17, szlt17, szle18, szlt18, szle19, szlt19, szle20, szlt20, szle21, szlt21, szle22, szlt22, szle23, szlt23, szle24, szlt24, szle25, szlt25, szle26, szlt26, szle27, szlt27, szle28, szlt28, szle29, szlt29, szle30, szlt30, Out.wp_nx, Out.wp_rt, Out.wp_bk, Out.wp_ct, eqS_int, isS_bl, R.bind_ok, R.out_ok, Sl.pd_v, Sl.pd_l, Sl.pd_k, List.set_cons_zero, List.set_cons_succ, List.getElem?_cons_zero, List.getElem?_cons_succ, List.getElem?_nil, Option.getD_some, Option.getD_none, if_true, Bool.false_eq_true, if_false, bt_nm, bt_tup, bt_lst, bts_nil, bts_cons, wipeE, start0, List.length_cons, List.length_nil, List.replicate, List.cons_append, List.nil_append, List.map_cons, List.map_nil, Nat.reduceAdd, Nat.reduceSub, Nat.zero_add, Bool.not_true, Bool.not_false, decide_true, decide_false, cg_nil, cg_cons, bls_nil, bls_cons, tst_at, cst_at, ch2_at, w_seq, w_sel, rest_nil, Out.wp_out, isB_ok, isI_ok, PD.flat, ne_eq, not_false_eq_true, Int.reduceEq, Int.reduceToNat, Int.reducePow, Int.reduceLT, Int.reduceLE, Int.reduceMul, Int.reduceAdd, Int.reduceSub, pow9, pow16, pow18, pow57, pow60, epr])
      obtain ⟨r0, r1⟩ := fmod_range (i := c) (m := pr) (by omega)
      have w3 : powOk (c.fmod pr + 7919 * k + 11) 3 := ⟨by decide, by decide, by omega⟩
      (refine Rest.mk ?_; simp only [asP_v, asP_l, asP_k, asB_ok, asI_ok, nox_ok, b_add, b_adds, b_addt, b_addl, b_sub, b_mul, b_fdiv, b_mod, b_pow, b_eq, b_ne, b_lt, b_le, b_gt, b_ge, b_is, b_isn, b_inn, b_nin, b_idxl, b_idxt, b_max, b_min, u_neg, u_lenl, u_lent, u_abs, u_int, u_intb, u_tupl, u_tupt, u_lstl, u_lstt, u_str, u_strs, u_all, u_any, u_sum, seq_l, seq_t, seq_s, sl_l, sl_t, sl_s, is_NoneType_int, is_NoneType_bool, is_NoneType_tuple, is_NoneType_list, is_NoneType_str, is_bool_int, is_bool_bool, is_bool_tuple, is_bool_list, is_bool_str, is_int_int, is_int_bool, is_int_tuple, is_int_list, is_int_str, is_str_int, is_str_bool, is_str_tuple, is_str_list, is_str_str, is_tuple_int, is_tuple_bool, is_tuple_tuple, is_tuple_list, is_tuple_str, is_list_int, is_list_bool, is_list_tuple, is_list_list, is_list_str, is_dict_int, is_dict_bool, is_dict_tuple, is_dict_list, is_dict_str, R.all_ok, selE_t, selE_f, evB_at, evP_at, r_pass, r_set, r_own, r_frz, r_unp, r_par, r_app, r_popd, r_popa, r_swp, r_expr, r_ret, r_retm, r_retn, r_ifs, r_whl, r_fr, r_brk, r_cnt, r_raise, r_nil, e_var, e_lit, e_glo, e_u, e_b, e_isi, e_slc, e_rep, e_and, e_or, e_not, e_ite, e_chn, e_chn3, ch3_at, e_qcall, nox_ok, e_mth, e_mkx, mk_index, mk_join, mk_split, m_join, e_lrng, b_divm, e_tup, e_lst, e_call, e_comp, e_bor, e_d0, e_d1, e_pget, r_pput, u_max, u_min, e_oget, e_kin, e_kget, e_kgetd, e_klen, e_sset, e_sortk, r_kput, r_ins, r_ext, r_put, r_pop, e_rev, R.all_ask, es_nil, es_cons, eo_no, eo_yes, ei_seq, ei_rng, ei_zip, ei_enm, szle0, szlt0, szle1, szlt1, szle2, szlt2, szle3, szlt3, szle4, szlt4, szle5, szlt5, szle6, szlt6, szle7, szlt7, szle8, szlt8, szle9, szlt9, szle10, szlt10, szle11, szlt11, szle12, szlt12, szle13, szlt13, szle14, szlt14, szle15, szlt15, szle16, szlt16, szle17, szlt17, szle18, szlt18, szle19, szlt19, szle20, szlt20, szle21, szlt21, szle22, szlt22, szle23, szlt23, szle24, szlt24, szle25, szlt25, szle26, szlt26, szle27, szlt27, szle28, szlt28, szle29, szlt29, szle30, szlt30, Out.wp_nx, Out.wp_rt, Out.wp_bk, Out.wp_ct, eqS_int, isS_bl, R.bind_ok, R.out_ok, Sl.pd_v, Sl.pd_l, Sl.pd_k, List.set_cons_zero, List.set_cons_succ, List.getElem?_cons_zero, List.getElem?_cons_succ, List.getElem?_nil, Option.getD_some, Option.getD_none, if_true, Bool.false_eq_true, if_false, bt_nm, bt_tup, bt_lst, bts_nil, bts_cons, wipeE, start0, List.length_cons, List.length_nil, List.replicate, List.cons_append, List.nil_append, List.map_cons, List.map_nil, Nat.reduceAdd, Nat.reduceSub, Nat.zero_add, Bool.not_true, Bool.not_false, decide_true, decide_false, cg_nil, cg_cons, bls_nil, bls_cons, tst_at, cst_at, ch2_at, w_seq, w_sel, rest_nil, Out.wp_out, isB_ok, isI_ok, PD.flat, ne_eq, not_false_eq_true, Int.reduceEq, Int.reduceToNat, Int.reducePow, Int.reduceLT, Int.reduceLE, Int.reduceMul, Int.reduceAdd, Int.reduceSub, pow9, pow16, pow18, pow57, pow60, p18, prn, m7, w3])
      exact ⟨[_, _], rfl, ⟨_, _, rfl, fin c, (fmod_range (by decide)).1, (fmod_range (by decide)).2⟩, by simp⟩
    rw [q_law_pot]
    refine den_all rfl ?_
    simp only [asP_v, asP_l, asP_k, asB_ok, asI_ok, nox_ok, b_add, b_adds, b_addt, b_addl, b_sub, b_mul, b_fdiv, b_mod, b_pow, b_eq, b_ne, b_lt, b_le, b_gt, b_ge, b_is, b_isn, b_inn, b_nin, b_idxl, b_idxt, b_max, b_min, u_neg, u_lenl, u_lent, u_abs, u_int, u_intb, u_tupl, u_tupt, u_lstl, u_lstt, u_str, u_strs, u_all, u_any, u_sum, seq_l, seq_t, seq_s, sl_l, sl_t, sl_s, is_NoneType_int, is_NoneType_bool, is_NoneType_tuple, is_NoneType_list, is_NoneType_str, is_bool_int, is_bool_bool, is_bool_tuple, is_bool_list, is_bool_str, is_int_int, is_int_bool, is_int_tuple, is_int_list, is_int_str, is_str_int, is_str_bool, is_str_tuple, is_str_list, is_str_str, is_tuple_int, is_tuple_bool, is_tuple_tuple, is_tuple_list, is_tuple_str, is_list_int, is_list_bool, is_list_tuple, is_list_list, is_list_str, is_dict_int, is_dict_bool, is_dict_tuple, is_dict_list, is_dict_str, R.all_ok, selE_t, selE_f, evB_at, evP_at, r_pass, r_set, r_own, r_frz, r_unp, r_par, r_app, r_popd, r_popa, r_swp, r_expr, r_ret, r_retm, r_retn, r_ifs, r_whl, r_fr, r_brk, r_cnt, r_raise, r_nil, e_var, e_lit, e_glo, e_u, e_b, e_isi, e_slc, e_rep, e_and, e_or, e_not, e_ite, e_chn, e_chn3, ch3_at, e_qcall, nox_ok, e_mth, e_mkx, mk_index, mk_join, mk_split, m_join, e_lrng, b_divm, e_tup, e_lst, e_call, e_comp, e_bor, e_d0, e_d1, e_pget, r_pput, u_max, u_min, e_oget, e_kin, e_kget, e_kgetd, e_klen, e_sset, e_sortk, r_kput, r_ins, r_ext, r_put, r_pop, e_rev, R.all_ask, es_nil, es_cons, eo_no, eo_yes, ei_seq, ei_rng, ei_zip, ei_enm, szle0, szlt0, szle1, szlt1, szle2, szlt2, szle3, szlt3, szle4, szlt4, szle5, szlt5, szle6, szlt6, szle7, szlt7, szle8, szlt8, szle9, szlt9, szle10, szlt10, szle11, szlt11, szle12, szlt12, szle13, szlt13, szle14, szlt14, szle15, szlt15, szle16, szlt16, szle17, szlt17, szle18, szlt18, szle19, szlt19, szle20, szlt20, szle21, szlt21, szle22, szlt22, szle23, szlt23, szle24, szlt24, szle25, szlt25, szle26, szlt26, szle27, szlt27, szle28, szlt28, szle29, szlt29, szle30, szlt30, Out.wp_nx, Out.wp_rt, Out.wp_bk, Out.wp_ct, eqS_int, isS_bl, R.bind_ok, R.out_ok, Sl.pd_v, Sl.pd_l, Sl.pd_k, List.set_cons_zero, List.set_cons_succ, List.getElem?_cons_zero, List.getElem?_cons_succ, List.getElem?_nil, Option.getD_some, Option.getD_none, if_true, Bool.false_eq_true, if_false, bt_nm, bt_tup, bt_lst, bts_nil, bts_cons, wipeE, start0, List.length_cons, List.length_nil, List.replicate, List.cons_append, List.nil_append, List.map_cons, List.map_nil, Nat.reduceAdd, Nat.reduceSub, Nat.zero_add, Bool.not_true, Bool.not_false, decide_true, decide_false, cg_nil, cg_cons, bls_nil, bls_cons, tst_at, cst_at, ch2_at, w_seq, w_sel, rest_nil, Out.wp_out, isB_ok, isI_ok, PD.flat, ne_eq, not_false_eq_true, Int.reduceEq, Int.reduceToNat, Int.reducePow, Int.reduceLT, Int.reduceLE, Int.reduceMul, Int.reduceAdd, Int.reduceSub, pow9, pow16, pow18, pow57, pow60, b_law_pot]
    by_cases hl : k < ns.length
    · obtain ⟨c, _, _, a⟩ := at_ints k3 hl
      have big1 : mulOk 1000000000000000000000000000000000000000000000000000000000000 1000000000000000000000000000000000000000000000000000000000000 := mulOk_of 200 200 (by decide) (by decide)
      have big2 : mulOk 1000000000000000000000000000000000000000000000000000000000000000000000000000000000000000000000000000000000000000000000000 1000000000000000000000000000000000000000000000000000000000000 := mulOk_of 400 200 (by decide) (by decide)
      (refine Rest.mk ?_; simp only [asP_v, asP_l, asP_k, asB_ok, asI_ok, nox_ok, b_add, b_adds, b_addt, b_addl, b_sub, b_mul, b_fdiv, b_mod, b_pow, b_eq, b_ne, b_lt, b_le, b_gt, b_ge, b_is, b_isn, b_inn, b_nin, b_idxl, b_idxt, b_max, b_min, u_neg, u_lenl, u_lent, u_abs, u_int, u_intb, u_tupl, u_tupt, u_lstl, u_lstt, u_str, u_strs, u_all, u_any, u_sum, seq_l, seq_t, seq_s, sl_l, sl_t, sl_s, is_NoneType_int, is_NoneType_bool, is_NoneType_tuple, is_NoneType_list, is_NoneType_str, is_bool_int, is_bool_bool, is_bool_tuple, is_bool_list, is_bool_str, is_int_int, is_int_bool, is_int_tuple, is_int_list, is_int_str, is_str_int, is_str_bool, is_str_tuple, is_str_list, is_str_str, is_tuple_int, is_tuple_bool, is_tuple_tuple, is_tuple_list, is_tuple_str, is_list_int, is_list_bool, is_list_tuple, is_list_list, is_list_str, is_dict_int, is_dict_bool, is_dict_tuple, is_dict_list, is_dict_str, R.all_ok, selE_t, selE_f, evB_at, evP_at, r_pass, r_set, r_own, r_frz, r_unp, r_par, r_app, r_popd, r_popa, r_swp, r_expr, r_ret, r_retm, r_retn, r_ifs, r_whl, r_fr, r_brk, r_cnt, r_raise, r_nil, e_var, e_lit, e_glo, e_u, e_b, e_isi, e_slc, e_rep, e_and, e_or, e_not, e_ite, e_chn, e_chn3, ch3_at, e_qcall, nox_ok, e_mth, e_mkx, mk_index, mk_join, mk_split, m_join, e_lrng, b_divm, e_tup, e_lst, e_call, e_comp, e_bor, e_d0, e_d1, e_pget, r_pput, u_max, u_min, e_oget, e_kin, e_kget, e_kgetd, e_klen, e_sset, e_sortk, r_kput, r_ins, r_ext, r_put, r_pop, e_rev, R.all_ask, es_nil, es_cons, eo_no, eo_yes, ei_seq, ei_rng, ei_zip, ei_enm, szle0, szlt0, szle1, szlt1, szle2, szlt2, szle3, szlt3, szle4, szlt4, szle5, szlt5, szle6, szlt6, szle7, szlt7, szle8, szlt8, szle9, szlt9, szle10, szlt10, szle11, szlt11, szle12, szlt12, szle13, szlt13, szle14, szlt14, szle15, szlt15, szle16, szlt16, szle17, szlt17, szle18, szlt18, szle19, szlt19, szle20, szlt20, szle21, szlt21, szle22, szlt22, szle23, szlt23, szle24, szlt24, szle25, szlt25, szle26, szlt26, szle27, szlt27, szle28, szlt28, szle29, szlt29, szle30, szlt30, Out.wp_nx, Out.wp_rt, Out.wp_bk, Out.wp_ct, eqS_int, isS_bl, R.bind_ok, R.out_ok, Sl.pd_v, Sl.pd_l, Sl.pd_k, List.set_cons_zero, List.set_cons_succ, List.getElem?_cons_zero, List.getElem?_cons_succ, List.getElem?_nil, Option.getD_some, Option.getD_none, if_true, Bool.false_eq_true, if_false, bt_nm, bt_tup, bt_lst, bts_nil, bts_cons, wipeE, start0, List.length_cons, List.length_nil, List.replicate, List.cons_append, List.nil_append, List.map_cons, List.map_nil, Nat.reduceAdd, Nat.reduceSub, Nat.zero_add, Bool.not_true, Bool.not_false, decide_true, decide_false, cg_nil, cg_cons, bls_nil, bls_cons, tst_at, cst_at, ch2_at, w_seq, w_sel, rest_nil, Out.wp_out, isB_ok, isI_ok, PD.flat, ne_eq, not_false_eq_true, Int.reduceEq, Int.reduceToNat, Int.reducePow, Int.reduceLT, Int.reduceLE, Int.reduceMul, Int.reduceAdd, Int.reduceSub, pow9, pow16, pow18, pow57, pow60, List.length_map, hl])
      (refine Rest.mk ?_; simp only [asP_v, asP_l, asP_k, asB_ok, asI_ok, nox_ok, b_add, b_adds, b_addt, b_addl, b_sub, b_mul, b_fdiv, b_mod, b_pow, b_eq, b_ne, b_lt, b_le, b_gt, b_ge, b_is, b_isn, b_inn, b_nin, b_idxl, b_idxt, b_max, b_min, u_neg, u_lenl, u_lent, u_abs, u_int, u_intb, u_tupl, u_tupt, u_lstl, u_lstt, u_str, u_strs, u_all, u_any, u_sum, seq_l, seq_t, seq_s, sl_l, sl_t, sl_s, is_NoneType_int, is_NoneType_bool, is_NoneType_tuple, is_NoneType_list, is_NoneType_str, is_bool_int, is_bool_bool, is_bool_tuple, is_bool_list, is_bool_str, is_int_int, is_int_bool, is_int_tuple, is_int_list, is_int_str, is_str_int, is_str_bool, is_str_tuple, is_str_list, is_str_str, is_tuple_int, is_tuple_bool, is_tuple_tuple, is_tuple_list, is_tuple_str, is_list_int, is_list_bool, is_list_tuple, is_list_list, is_list_str, is_dict_int, is_dict_bool, is_dict_tuple, is_dict_list, is_dict_str, R.all_ok, selE_t, selE_f, evB_at, evP_at, r_pass, r_set, r_own, r_frz, r_unp, r_par, r_app, r_popd, r_popa, r_swp, r_expr, r_ret, r_retm, r_retn, r_ifs, r_whl, r_fr, r_brk, r_cnt, r_raise, r_nil, e_var, e_lit, e_glo, e_u, e_b, e_isi, e_slc, e_rep, e_and, e_or, e_not, e_ite, e_chn, e_chn3, ch3_at, e_qcall, nox_ok, e_mth, e_mkx, mk_index, mk_join, mk_split, m_join, e_lrng, b_divm, e_tup, e_lst, e_call, e_comp, e_bor, e_d0, e_d1, e_pget, r_pput, u_max, u_min, e_oget, e_kin, e_kget, e_kgetd, e_klen, e_sset, e_sortk, r_kput, r_ins, r_ext, r_put, r_pop, e_rev, R.all_ask, es_nil, es_cons, eo_no, eo_yes, ei_seq, ei_rng, ei_zip, ei_enm, szle0, szlt0, szle1, szlt1, szle2, szlt2, szle3, szlt3, szle4, szlt4, szle5, szlt5, szle6, szlt6, szle7, szlt7, szle8, szlt8, szle9, szlt9, szle10, szlt10, szle11, szlt11, szle12, szlt12, szle13, szlt13, szle14, szlt14, szle15, szlt15, szle16, szlt16, szle17, szlt17, szle18, szlt18, szle19, szlt19, szle20, szlt20, szle21, szlt21, szle22, szlt22, szle23, szlt23, szle24, szlt24, szle25, szlt25, szle26, szlt26, szle27, szlt27, szle28, szlt28, szle29, szlt29, szle30, szlt30, Out.wp_nx, Out.wp_rt, Out.wp_bk, Out.wp_ct, eqS_int, isS_bl, R.bind_ok, R.out_ok, Sl.pd_v, Sl.pd_l, Sl.pd_k, List.set_cons_zero, List.set_cons_succ, List.getElem?_cons_zero, List.getElem?_cons_succ, List.getElem?_nil, Option.getD_some, Option.getD_none, if_true, Bool.false_eq_true, if_false, bt_nm, bt_tup, bt_lst, bts_nil, bts_cons, wipeE, start0, List.length_cons, List.length_nil, List.replicate, List.cons_append, List.nil_append, List.map_cons, List.map_nil, Nat.reduceAdd, Nat.reduceSub, Nat.zero_add, Bool.not_true, Bool.not_false, decide_true, decide_false, cg_nil, cg_cons, bls_nil, bls_cons, tst_at, cst_at, ch2_at, w_seq, w_sel, rest_nil, Out.wp_out, isB_ok, isI_ok, PD.flat, ne_eq, not_false_eq_true, Int.reduceEq, Int.reduceToNat, Int.reducePow, Int.reduceLT, Int.reduceLE, Int.reduceMul, Int.reduceAdd, Int.reduceSub, pow9, pow16, pow18, pow57, pow60, a, p60, big1, big2])
      exact rest _
    · (refine Rest.mk ?_; simp only [asP_v, asP_l, asP_k, asB_ok, asI_ok, nox_ok, b_add, b_adds, b_addt, b_addl, b_sub, b_mul, b_fdiv, b_mod, b_pow, b_eq, b_ne, b_lt, b_le, b_gt, b_ge, b_is, b_isn, b_inn, b_nin, b_idxl, b_idxt, b_max, b_min, u_neg, u_lenl, u_lent, u_abs, u_int, u_intb, u_tupl, u_tupt, u_lstl, u_lstt, u_str, u_strs, u_all, u_any, u_sum, seq_l, seq_t, seq_s, sl_l, sl_t, sl_s, is_NoneType_int, is_NoneType_bool, is_NoneType_tuple, is_NoneType_list, is_NoneType_str, is_bool_int, is_bool_bool, is_bool_tuple, is_bool_list, is_bool_str, is_int_int, is_int_bool, is_int_tuple, is_int_list, is_int_str, is_str_int, is_str_bool, is_str_tuple, is_str_list, is_str_str, is_tuple_int, is_tuple_bool, is_tuple_tuple, is_tuple_list, is_tuple_str, is_list_int, is_list_bool, is_list_tuple, is_list_list, is_list_str, is_dict_int, is_dict_bool, is_dict_tuple, is_dict_list, is_dict_str, R.all_ok, selE_t, selE_f, evB_at, evP_at, r_pass, r_set, r_own, r_frz, r_unp, r_par, r_app, r_popd, r_popa, r_swp, r_expr, r_ret, r_retm, r_retn, r_ifs, r_whl, r_fr, r_brk, r_cnt, r_raise, r_nil, e_var, e_lit, e_glo, e_u, e_b, e_isi, e_slc, e_rep, e_and, e_or, e_not, e_ite, e_chn, e_chn3, ch3_at, e_qcall, nox_ok, e_mth, e_mkx, mk_index, mk_join, mk_split, m_join, e_lrng, b_divm, e_tup, e_lst, e_call, e_comp, e_bor, e_d0, e_d1, e_pget, r_pput, u_max, u_min, e_oget, e_kin, e_kget, e_kgetd, e_klen, e_sset, e_sortk, r_kput, r_ins, r_ext, r_put, r_pop, e_rev, R.all_ask, es_nil, es_cons, eo_no, eo_yes, ei_seq, ei_rng, ei_zip, ei_enm, szle0, szlt0, szle1, szlt1, szle2, szlt2, szle3, szlt3, szle4, szlt4, szle5, szlt5, szle6, szlt6, szle7, szlt7, szle8, szlt8, szle9, szlt9, szle10, szlt10, szle11, szlt11, szle12, szlt12, szle13, szlt13, szle14, szlt14, szle15, szlt15, szle16, szlt16, szle17, szlt17, szle18, szlt18, szle19, szlt19, szle20, szlt20, szle21, szlt21, szle22, szlt22, szle23, szlt23, szle24, szlt24, szle25, szlt25, szle26, szlt26, szle27, szlt27, szle28, szlt28, szle29, szlt29, szle30, szlt30, Out.wp_nx, Out.wp_rt, Out.wp_bk, Out.wp_ct, eqS_int, isS_bl, R.bind_ok, R.out_ok, Sl.pd_v, Sl.pd_l, Sl.pd_k, List.set_cons_zero, List.set_cons_succ, List.getElem?_cons_zero, List.getElem?_cons_succ, List.getElem?_nil, Option.getD_some, Option.getD_none, if_true, Bool.false_eq_true, if_false, bt_nm, bt_tup, bt_lst, bts_nil, bts_cons, wipeE, start0, List.length_cons, List.length_nil, List.replicate, List.cons_append, List.nil_append, List.map_cons, List.map_nil, Nat.reduceAdd, Nat.reduceSub, Nat.zero_add, Bool.not_true, Bool.not_false, decide_true, decide_false, cg_nil, cg_cons, bls_nil, bls_cons, tst_at, cst_at, ch2_at, w_seq, w_sel, rest_nil, Out.wp_out, isB_ok, isI_ok, PD.flat, ne_eq, not_false_eq_true, Int.reduceEq, Int.reduceToNat, Int.reducePow, Int.reduceLT, Int.reduceLE, Int.reduceMul, Int.reduceAdd, Int.reduceSub, pow9, pow16, pow18, pow57, pow60, List.length_map, hl])
      exact rest 5
  · rw [if_neg hk] at hd
    exact absurd rfl hd
/-! rows of shells -/
def Row (ms rs : List Int) : PD := .tup [tupI ms, tupI rs]
structure RwOk (ms rs : List Int) : Prop where
  p1 : 1 ≤ rs.length
  p2 : rs.length ≤ 30
  l1 : rs.length ≤ ms.length
  l2 : ms.length ≤ 60
/-- a shell by a row -/
@[irreducible] def sh (ms rs : List Int) (n : Nat) : Int :=
  if n < ms.length then ms.getD n 0
  else ms.getD (n - (1 + (n - ms.length) / rs.length) * rs.length) 0 + ((1 + (n - ms.length) / rs.length : Nat) : Int) * rs.getD (n % rs.length) 0
theorem at_D {ns : List Int} {n : Nat} (h : n < ns.length) : atI (ns.map PD.int) (n : Int) = some (.int (ns.getD n 0)) := by
  obtain ⟨x, _, e1, e2⟩ := at_ints (ns := ns) (i := (n : Int)) (by omega) (by omega)
  rw [e2, List.getD_eq_getElem?_getD]
  rw [Int.toNat_natCast] at e1
  rw [e1]; rfl
theorem back_lt {n l p : Nat} (hp : 1 ≤ p) (hl : p ≤ l) (hn : l ≤ n) : (1 + (n - l) / p) * p ≤ n ∧ n - (1 + (n - l) / p) * p < l ∧ l ≤ n - (1 + (n - l) / p) * p + p := by
  have e := Nat.div_add_mod (n - l) p
  have r := Nat.mod_lt (n - l) (y := p) (by omega)
  have e2 : (1 + (n - l) / p) * p = p + p * ((n - l) / p) := by rw [Nat.add_mul, Nat.one_mul, Nat.mul_comm]
  rw [e2]
  generalize p * ((n - l) / p) = X at *
  omega
theorem fdiv_nat (a b : Nat) : ((a : Int).fdiv (b : Int)) = ((a / b : Nat) : Int) := by
  rw [Int.fdiv_eq_ediv_of_nonneg _ (by omega)]; rfl
theorem fmod_nat (a b : Nat) : ((a : Int).fmod (b : Int)) = ((a % b : Nat) : Int) := by
  rw [Int.fmod_eq_emod_of_nonneg _ (by omega)]; rfl
theorem row_shell_eq {ms rs : List Int} (h : RwOk ms rs) (n : Nat) (hn : n < 2 ^ 60) : d_row_shell [Row ms rs, .int n] = .ok (.v (.int (sh ms rs n))) := by
  have hp1 := h.p1
  have hp2 := h.p2
  have hl1 := h.l1
  have hl2 := h.l2
  rw [t_row_shell]
  by_cases c : n < ms.length
  · have c' : ((n : Int) < ms.length) := by omega
    have a := at_D c
    have e : sh ms rs n = ms.getD n 0 := by unfold sh; rw [if_pos c]
    simp only [asP_v, asP_l, asP_k, asB_ok, asI_ok, nox_ok, b_add, b_adds, b_addt, b_addl, b_sub, b_mul, b_fdiv, b_mod, b_pow, b_eq, b_ne, b_lt, b_le, b_gt, b_ge, b_is, b_isn, b_inn, b_nin, b_idxl, b_idxt, b_max, b_min, u_neg, u_lenl, u_lent, u_abs, u_int, u_intb, u_tupl, u_tupt, u_lstl, u_lstt, u_str, u_strs, u_all, u_any, u_sum, seq_l, seq_t, seq_s, sl_l, sl_t, sl_s, is_NoneType_int, is_NoneType_bool, is_NoneType_tuple, is_NoneType_list, is_NoneType_str, is_bool_int, is_bool_bool, is_bool_tuple, is_bool_list, is_bool_str, is_int_int, is_int_bool, is_int_tuple, is_int_list, is_int_str, is_str_int, is_str_bool, is_str_tuple, is_str_list, is_str_str, is_tuple_int, is_tuple_bool, is_tuple_tuple, is_tuple_list, is_tuple_str, is_list_int, is_list_bool, is_list_tuple, is_list_list, is_list_str, is_dict_int, is_dict_bool, is_dict_tuple, is_dict_list, is_dict_str, selE_t, selE_f, evB_at, evP_at, r_pass, r_set, r_own, r_frz, r_unp, r_par, r_app, r_popd, r_popa, r_swp, r_expr, r_ret, r_retm, r_retn, r_ifs, r_whl, r_fr, r_brk, r_cnt, r_raise, r_nil, e_var, e_lit, e_glo, e_u, e_b, e_isi, e_slc, e_rep, e_and, e_or, e_not, e_ite, e_chn, e_chn3, ch3_at, e_qcall, nox_ok, e_mth, e_mkx, mk_index, mk_join, mk_split, m_join, e_lrng, b_divm, e_tup, e_lst, e_call, e_comp, e_bor, e_d0, e_d1, e_pget, r_pput, u_max, u_min, e_oget, e_kin, e_kget, e_kgetd, e_klen, e_sset, e_sortk, r_kput, r_ins, r_ext, r_put, r_pop, e_rev, es_nil, es_cons, eo_no, eo_yes, ei_seq, ei_rng, ei_zip, ei_enm, szle0, szlt0, szle1, szlt1, szle2, szlt2, szle3, szlt3, szle4, szlt4, szle5, szlt5, szle6, szlt6, szle7, szlt7, szle8, szlt8, szle9, szlt9, szle10, szlt10, szle11, szlt11, szle12, szlt12, szle13, szlt13, szle14, szlt14, szle15, szlt15, szle16, szlt16, szle17, szlt17, szle18, szlt18, szle19, szlt19, szle20, szlt20, szle21, szlt21, szle22, szlt22, szle23, szlt23, szle24, szlt24, szle25, szlt25, szle26, szlt26, szle27, szlt27, szle28, szlt28, szle29, szlt29, szle30, szlt30, eqS_int, isS_bl, R.bind_ok, R.out_ok, Sl.pd_v, Sl.pd_l, Sl.pd_k, List.set_cons_zero, List.set_cons_succ, List.getElem?_cons_zero, List.getElem?_cons_succ, List.getElem?_nil, Option.getD_some, Option.getD_none, if_true, Bool.false_eq_true, if_false, bt_nm, bt_tup, bt_lst, bts_nil, bts_cons, wipeE, start0, List.length_cons, List.length_nil, List.replicate, List.cons_append, List.nil_append, List.map_cons, List.map_nil, Nat.reduceAdd, Nat.reduceSub, Nat.zero_add, Bool.not_true, Bool.not_false, decide_true, decide_false, cg_nil, cg_cons, bls_nil, bls_cons, tst_at, cst_at, ch2_at, isB_ok, isI_ok, PD.flat, ne_eq, not_false_eq_true, Int.reduceEq, Int.reduceToNat, Int.reducePow, Int.reduceLT, Int.reduceLE, Int.reduceMul, Int.reduceAdd, Int.reduceSub, pow9, pow16, pow18, pow57, pow60, r_seq, go_nx, go_ct, go_bk, go_rt, go_ex, sel_t, sel_f, res_rt, res_nx, res_ex, R.bind_ex, R.out_ex, r_raise, r_tryc, r_tryn, ca_ex, ca_nx, ca_rt, b_row_shell, Row, tupI, List.length_map, c', a, e]
  · have c' : ¬ ((n : Int) < ms.length) := by omega
    obtain ⟨b1, b2, b3⟩ := back_lt hp1 hl1 (show ms.length ≤ n by omega)
    have dv : divOk (rs.length : Int) := divOk_of (by omega) (by omega)
    have rn : ¬ ((rs.length : Int) = 0) := by omega
    have ed : ((n : Int) - ms.length).fdiv rs.length + 1 = ((1 + (n - ms.length) / rs.length : Nat) : Int) := by
      rw [show (n : Int) - ms.length = ((n - ms.length : Nat) : Int) by omega, fdiv_nat]; omega
    have mo : ∀ z : Int, mulOk z rs.length := fun z => mulOk_r (by omega)
    have e3 := fmod_nat n rs.length
    have a2 := at_D (ns := rs) (n := n % rs.length) (Nat.mod_lt _ (by omega))
    have a1 := at_D b2
    have ei : (n : Int) - ((1 + (n - ms.length) / rs.length : Nat) : Int) * (rs.length : Int) = ((n - (1 + (n - ms.length) / rs.length) * rs.length : Nat) : Int) := by
      rw [Int.ofNat_sub b1, Int.natCast_mul]
    have e : sh ms rs n = ms.getD (n - (1 + (n - ms.length) / rs.length) * rs.length) 0 + ((1 + (n - ms.length) / rs.length : Nat) : Int) * rs.getD (n % rs.length) 0 := by unfold sh; rw [if_neg c]
    have mb : mulOk (((1 + (n - ms.length) / rs.length : Nat)) : Int) (rs.getD (n % rs.length) 0) := mulOk_l (by have := Nat.div_le_self (n - ms.length) rs.length; generalize (n - ms.length) / rs.length = Z at this ⊢; omega)
    simp only [asP_v, asP_l, asP_k, asB_ok, asI_ok, nox_ok, b_add, b_adds, b_addt, b_addl, b_sub, b_mul, b_fdiv, b_mod, b_pow, b_eq, b_ne, b_lt, b_le, b_gt, b_ge, b_is, b_isn, b_inn, b_nin, b_idxl, b_idxt, b_max, b_min, u_neg, u_lenl, u_lent, u_abs, u_int, u_intb, u_tupl, u_tupt, u_lstl, u_lstt, u_str, u_strs, u_all, u_any, u_sum, seq_l, seq_t, seq_s, sl_l, sl_t, sl_s, is_NoneType_int, is_NoneType_bool, is_NoneType_tuple, is_NoneType_list, is_NoneType_str, is_bool_int, is_bool_bool, is_bool_tuple, is_bool_list, is_bool_str, is_int_int, is_int_bool, is_int_tuple, is_int_list, is_int_str, is_str_int, is_str_bool, is_str_tuple, is_str_list, is_str_str, is_tuple_int, is_tuple_bool, is_tuple_tuple, is_tuple_list, is_tuple_str, is_list_int, is_list_bool, is_list_tuple, is_list_list, is_list_str, is_dict_int, is_dict_bool, is_dict_tuple, is_dict_list, is_dict_str, selE_t, selE_f, evB_at, evP_at, r_pass, r_set, r_own, r_frz, r_unp, r_par, r_app, r_popd, r_popa, r_swp, r_expr, r_ret, r_retm, r_retn, r_ifs, r_whl, r_fr, r_brk, r_cnt, r_raise, r_nil, e_var, e_lit, e_glo, e_u, e_b, e_isi, e_slc, e_rep, e_and, e_or, e_not, e_ite, e_chn, e_chn3, ch3_at, e_qcall, nox_ok, e_mth, e_mkx, mk_index, mk_join, mk_split, m_join, e_lrng, b_divm, e_tup, e_lst, e_call, e_comp, e_bor, e_d0, e_d1, e_pget, r_pput, u_max, u_min, e_oget, e_kin, e_kget, e_kgetd, e_klen, e_sset, e_sortk, r_kput, r_ins, r_ext, r_put, r_pop, e_rev, es_nil, es_cons, eo_no, eo_yes, ei_seq, ei_rng, ei_zip, ei_enm, szle0, szlt0, szle1, szlt1, szle2, szlt2, szle3, szlt3, szle4, szlt4, szle5, szlt5, szle6, szlt6, szle7, szlt7, szle8, szlt8, szle9, szlt9, szle10, szlt10, szle11, szlt11, szle12, szlt12, szle13, szlt13, szle14, szlt14, szle15, szlt15, szle16, szlt16, szle17, szlt17, szle18, szlt18, szle19, szlt19, szle20, szlt20, szle21, szlt21, szle22, szlt22, szle23, szlt23, szle24, szlt24, szle25, szlt25, szle26, szlt26, szle27, szlt27, szle28, szlt28, szle29, szlt29, szle30, szlt30, eqS_int, isS_bl, R.bind_ok, R.out_ok, Sl.pd_v, Sl.pd_l, Sl.pd_k, List.set_cons_zero, List.set_cons_succ, List.getElem?_cons_zero, List.getElem?_cons_succ, List.getElem?_nil, Option.getD_some, Option.getD_none, if_true, Bool.false_eq_true, if_false, bt_nm, bt_tup, bt_lst, bts_nil, bts_cons, wipeE, start0, List.length_cons, List.length_nil, List.replicate, List.cons_append, List.nil_append, List.map_cons, List.map_nil, Nat.reduceAdd, Nat.reduceSub, Nat.zero_add, Bool.not_true, Bool.not_false, decide_true, decide_false, cg_nil, cg_cons, bls_nil, bls_cons, tst_at, cst_at, ch2_at, isB_ok, isI_ok, PD.flat, ne_eq, not_false_eq_true, Int.reduceEq, Int.reduceToNat, Int.reducePow, Int.reduceLT, Int.reduceLE, Int.reduceMul, Int.reduceAdd, Int.reduceSub, pow9, pow16, pow18, pow57, pow60, r_seq, go_nx, go_ct, go_bk, go_rt, go_ex, sel_t, sel_f, res_rt, res_nx, res_ex, R.bind_ex, R.out_ex, r_raise, r_tryc, r_tryn, ca_ex, ca_nx, ca_rt, b_row_shell, Row, tupI, List.length_map, c', dv, ed, mo, ei, rn, e3, a1, a2, mb, e]
theorem law_shell_eq {ms rs : List Int} (h : RwOk ms rs) (n : Nat) (hn : n < 2 ^ 60) : d_law_shell [Row ms rs, .int n] = .ok (.v (.int (sh ms rs n))) := by
  have hp1 := h.p1
  have hp2 := h.p2
  have hl1 := h.l1
  have hl2 := h.l2
  have rn : ¬ ((rs.length : Int) = 0) := by omega
  have mo : ∀ z : Int, mulOk z rs.length := fun z => mulOk_r (by omega)
  have e3 := fmod_nat n rs.length
  have a2 := at_D (ns := rs) (n := n % rs.length) (Nat.mod_lt _ (by omega))
  rw [t_law_shell]
  by_cases c : n < ms.length
  · have c' : ¬ ((ms.length : Int) ≤ n) := by omega
    have a := at_D c
    have e : sh ms rs n = ms.getD n 0 := by unfold sh; rw [if_pos c]
    have m0 : ∀ z : Int, mulOk 0 z := fun z => mulOk_l (by decide)
    simp only [asP_v, asP_l, asP_k, asB_ok, asI_ok, nox_ok, b_add, b_adds, b_addt, b_addl, b_sub, b_mul, b_fdiv, b_mod, b_pow, b_eq, b_ne, b_lt, b_le, b_gt, b_ge, b_is, b_isn, b_inn, b_nin, b_idxl, b_idxt, b_max, b_min, u_neg, u_lenl, u_lent, u_abs, u_int, u_intb, u_tupl, u_tupt, u_lstl, u_lstt, u_str, u_strs, u_all, u_any, u_sum, seq_l, seq_t, seq_s, sl_l, sl_t, sl_s, is_NoneType_int, is_NoneType_bool, is_NoneType_tuple, is_NoneType_list, is_NoneType_str, is_bool_int, is_bool_bool, is_bool_tuple, is_bool_list, is_bool_str, is_int_int, is_int_bool, is_int_tuple, is_int_list, is_int_str, is_str_int, is_str_bool, is_str_tuple, is_str_list, is_str_str, is_tuple_int, is_tuple_bool, is_tuple_tuple, is_tuple_list, is_tuple_str, is_list_int, is_list_bool, is_list_tuple, is_list_list, is_list_str, is_dict_int, is_dict_bool, is_dict_tuple, is_dict_list, is_dict_str, selE_t, selE_f, evB_at, evP_at, r_pass, r_set, r_own, r_frz, r_unp, r_par, r_app, r_popd, r_popa, r_swp, r_expr, r_ret, r_retm, r_retn, r_ifs, r_whl, r_fr, r_brk, r_cnt, r_raise, r_nil, e_var, e_lit, e_glo, e_u, e_b, e_isi, e_slc, e_rep, e_and, e_or, e_not, e_ite, e_chn, e_chn3, ch3_at, e_qcall, nox_ok, e_mth, e_mkx, mk_index, mk_join, mk_split, m_join, e_lrng, b_divm, e_tup, e_lst, e_call, e_comp, e_bor, e_d0, e_d1, e_pget, r_pput, u_max, u_min, e_oget, e_kin, e_kget, e_kgetd, e_klen, e_sset, e_sortk, r_kput, r_ins, r_ext, r_put, r_pop, e_rev, es_nil, es_cons, eo_no, eo_yes, ei_seq, ei_rng, ei_zip, ei_enm, szle0, szlt0, szle1, szlt1, szle2, szlt2, szle3, szlt3, szle4, szlt4, szle5, szlt5, szle6, szlt6, szle7, szlt7, szle8, szlt8, szle9, szlt9, szle10, szlt10, szle11, szlt11, szle12, szlt12, szle13, szlt13, szle14, szlt14, szle15, szlt15, szle16, szlt16, szle17, szlt17, szle18, szlt18, szle19, szlt19, szle20, szlt20, szle21, szlt21, szle22, szlt22, szle23, szlt23, szle24, szlt24, szle25, szlt25, szle26, szlt26, szle27, szlt27, szle28, szlt28, szle29, szlt29, szle30, szlt30, eqS_int, isS_bl, R.bind_ok, R.out_ok, Sl.pd_v, Sl.pd_l, Sl.pd_k, List.set_cons_zero, List.set_cons_succ, List.getElem?_cons_zero, List.getElem?_cons_succ, List.getElem?_nil, Option.getD_some, Option.getD_none, if_true, Bool.false_eq_true, if_false, bt_nm, bt_tup, bt_lst, bts_nil, bts_cons, wipeE, start0, List.length_cons, List.length_nil, List.replicate, List.cons_append, List.nil_append, List.map_cons, List.map_nil, Nat.reduceAdd, Nat.reduceSub, Nat.zero_add, Bool.not_true, Bool.not_false, decide_true, decide_false, cg_nil, cg_cons, bls_nil, bls_cons, tst_at, cst_at, ch2_at, isB_ok, isI_ok, PD.flat, ne_eq, not_false_eq_true, Int.reduceEq, Int.reduceToNat, Int.reducePow, Int.reduceLT, Int.reduceLE, Int.reduceMul, Int.reduceAdd, Int.reduceSub, pow9, pow16, pow18, pow57, pow60, r_seq, go_nx, go_ct, go_bk, go_rt, go_ex, sel_t, sel_f, res_rt, res_nx, res_ex, R.bind_ex, R.out_ex, r_raise, r_tryc, r_tryn, ca_ex, ca_nx, ca_rt, b_law_shell, Row, tupI, List.length_map, c', m0, Int.zero_mul, Int.sub_zero, a, rn, e3, a2, Int.add_zero, e]
  · have c' : ((ms.length : Int) ≤ n) := by omega
    obtain ⟨b1, b2, b3⟩ := back_lt hp1 hl1 (show ms.length ≤ n by omega)
    have dv : divOk (rs.length : Int) := divOk_of (by omega) (by omega)
    have ed : 1 + ((n : Int) - ms.length).fdiv rs.length = ((1 + (n - ms.length) / rs.length : Nat) : Int) := by
      rw [show (n : Int) - ms.length = ((n - ms.length : Nat) : Int) by omega, fdiv_nat]; omega
    have a1 := at_D b2
    have ei : (n : Int) - ((1 + (n - ms.length) / rs.length : Nat) : Int) * (rs.length : Int) = ((n - (1 + (n - ms.length) / rs.length) * rs.length : Nat) : Int) := by
      rw [Int.ofNat_sub b1, Int.natCast_mul]
    have e : sh ms rs n = ms.getD (n - (1 + (n - ms.length) / rs.length) * rs.length) 0 + ((1 + (n - ms.length) / rs.length : Nat) : Int) * rs.getD (n % rs.length) 0 := by unfold sh; rw [if_neg c]
    have mb : mulOk (((1 + (n - ms.length) / rs.length : Nat)) : Int) (rs.getD (n % rs.length) 0) := mulOk_l (by have := Nat.div_le_self (n - ms.length) rs.length; generalize (n - ms.length) / rs.length = Z at this ⊢; omega)
    simp only [asP_v, asP_l, asP_k, asB_ok, asI_ok, nox_ok, b_add, b_adds, b_addt, b_addl, b_sub, b_mul, b_fdiv, b_mod, b_pow, b_eq, b_ne, b_lt, b_le, b_gt, b_ge, b_is, b_isn, b_inn, b_nin, b_idxl, b_idxt, b_max, b_min, u_neg, u_lenl, u_lent, u_abs, u_int, u_intb, u_tupl, u_tupt, u_lstl, u_lstt, u_str, u_strs, u_all, u_any, u_sum, seq_l, seq_t, seq_s, sl_l, sl_t, sl_s, is_NoneType_int, is_NoneType_bool, is_NoneType_tuple, is_NoneType_list, is_NoneType_str, is_bool_int, is_bool_bool, is_bool_tuple, is_bool_list, is_bool_str, is_int_int, is_int_bool, is_int_tuple, is_int_list, is_int_str, is_str_int, is_str_bool, is_str_tuple, is_str_list, is_str_str, is_tuple_int, is_tuple_bool, is_tuple_tuple, is_tuple_list, is_tuple_str, is_list_int, is_list_bool, is_list_tuple, is_list_list, is_list_str, is_dict_int, is_dict_bool, is_dict_tuple, is_dict_list, is_dict_str, selE_t, selE_f, evB_at, evP_at, r_pass, r_set, r_own, r_frz, r_unp, r_par, r_app, r_popd, r_popa, r_swp, r_expr, r_ret, r_retm, r_retn, r_ifs, r_whl, r_fr, r_brk, r_cnt, r_raise, r_nil, e_var, e_lit, e_glo, e_u, e_b, e_isi, e_slc, e_rep, e_and, e_or, e_not, e_ite, e_chn, e_chn3, ch3_at, e_qcall, nox_ok, e_mth, e_mkx, mk_index, mk_join, mk_split, m_join, e_lrng, b_divm, e_tup, e_lst, e_call, e_comp, e_bor, e_d0, e_d1, e_pget, r_pput, u_max, u_min, e_oget, e_kin, e_kget, e_kgetd, e_klen, e_sset, e_sortk, r_kput, r_ins, r_ext, r_put, r_pop, e_rev, es_nil, es_cons, eo_no, eo_yes, ei_seq, ei_rng, ei_zip, ei_enm, szle0, szlt0, szle1, szlt1, szle2, szlt2, szle3, szlt3, szle4, szlt4, szle5, szlt5, szle6, szlt6, szle7, szlt7, szle8, szlt8, szle9, szlt9, szle10, szlt10, szle11, szlt11, szle12, szlt12, szle13, szlt13, szle14, szlt14, szle15, szlt15, szle16, szlt16, szle17, szlt17, szle18, szlt18, szle19, szlt19, szle20, szlt20, szle21, szlt21, szle22, szlt22, szle23, szlt23, szle24, szlt24, szle25, szlt25, szle26, szlt26, szle27, szlt27, szle28, szlt28, szle29, szlt29, szle30, szlt30, eqS_int, isS_bl, R.bind_ok, R.out_ok, Sl.pd_v, Sl.pd_l, Sl.pd_k, List.set_cons_zero, List.set_cons_succ, List.getElem?_cons_zero, List.getElem?_cons_succ, List.getElem?_nil, Option.getD_some, Option.getD_none, if_true, Bool.false_eq_true, if_false, bt_nm, bt_tup, bt_lst, bts_nil, bts_cons, wipeE, start0, List.length_cons, List.length_nil, List.replicate, List.cons_append, List.nil_append, List.map_cons, List.map_nil, Nat.reduceAdd, Nat.reduceSub, Nat.zero_add, Bool.not_true, Bool.not_false, decide_true, decide_false, cg_nil, cg_cons, bls_nil, bls_cons, tst_at, cst_at, ch2_at, isB_ok, isI_ok, PD.flat, ne_eq, not_false_eq_true, Int.reduceEq, Int.reduceToNat, Int.reducePow, Int.reduceLT, Int.reduceLE, Int.reduceMul, Int.reduceAdd, Int.reduceSub, pow9, pow16, pow18, pow57, pow60, r_seq, go_nx, go_ct, go_bk, go_rt, go_ex, sel_t, sel_f, res_rt, res_nx, res_ex, R.bind_ex, R.out_ex, r_raise, r_tryc, r_tryn, ca_ex, ca_nx, ca_rt, b_law_shell, Row, tupI, List.length_map, c', dv, ed, mo, ei, rn, e3, a1, a2, mb, e]
/-! rows alike for long enough are so for ever -/
theorem sh_step {ms rs : List Int} (h : RwOk ms rs) {n : Nat} (hn : ms.length ≤ n + rs.length) : sh ms rs (n + rs.length) = sh ms rs n + rs.getD (n % rs.length) 0 := by
  have hp1 := h.p1
  have hl1 := h.l1
  have em : (n + rs.length) % rs.length = n % rs.length := Nat.add_mod_right ..
  have e1 : sh ms rs (n + rs.length) = ms.getD (n + rs.length - (1 + (n + rs.length - ms.length) / rs.length) * rs.length) 0 + ((1 + (n + rs.length - ms.length) / rs.length : Nat) : Int) * rs.getD (n % rs.length) 0 := by
    unfold sh; rw [if_neg (by omega), em]
  rw [e1]
  by_cases c : n < ms.length
  · have e2 : (n + rs.length - ms.length) / rs.length = 0 := Nat.div_eq_of_lt (by omega)
    have e3 : sh ms rs n = ms.getD n 0 := by unfold sh; rw [if_pos c]
    rw [e2, e3, show n + rs.length - (1 + 0) * rs.length = n by omega]
    simp
  · have e2 : (n + rs.length - ms.length) / rs.length = (n - ms.length) / rs.length + 1 := by
      rw [show n + rs.length - ms.length = n - ms.length + rs.length by omega, Nat.add_div_right _ (by omega)]
    have e3 : sh ms rs n = ms.getD (n - (1 + (n - ms.length) / rs.length) * rs.length) 0 + ((1 + (n - ms.length) / rs.length : Nat) : Int) * rs.getD (n % rs.length) 0 := by unfold sh; rw [if_neg c]
    rw [e2, e3]
    have e4 : n + rs.length - (1 + ((n - ms.length) / rs.length + 1)) * rs.length = n - (1 + (n - ms.length) / rs.length) * rs.length := by
      rw [show 1 + ((n - ms.length) / rs.length + 1) = 1 + (n - ms.length) / rs.length + 1 by omega, Nat.add_mul _ 1, Nat.one_mul]; omega
    rw [e4]
    generalize ms.getD (n - (1 + (n - ms.length) / rs.length) * rs.length) 0 = X
    generalize rs.getD (n % rs.length) 0 = Y
    generalize (n - ms.length) / rs.length = Z
    have : ((1 + (Z + 1) : Nat) : Int) * Y = ((1 + Z : Nat) : Int) * Y + Y := by
      rw [show ((1 + (Z + 1) : Nat) : Int) = ((1 + Z : Nat) : Int) + 1 by omega, Int.add_mul, Int.one_mul]
    omega
theorem sh_two {ms rs : List Int} (h : RwOk ms rs) {n : Nat} (hn : ms.length ≤ n + rs.length) : sh ms rs (n + 2 * rs.length) = 2 * sh ms rs (n + rs.length) - sh ms rs n := by
  have e1 := sh_step h hn
  have e2 := sh_step h (n := n + rs.length) (by omega)
  rw [Nat.add_mod_right] at e2
  rw [show n + 2 * rs.length = n + rs.length + rs.length by omega, e2]
  omega
theorem agree {ms rs ms' rs' : List Int} (h : RwOk ms rs) (h' : RwOk ms' rs') (A : Nat) (hA : ms.length ≤ A + rs.length) (hA' : ms'.length ≤ A + rs'.length)
    (win : ∀ n, n < A + 2 * rs.length + 2 * rs'.length → sh ms rs n = sh ms' rs' n) : ∀ n, sh ms rs n = sh ms' rs' n := by
  intro n
  induction n using Nat.strongRecOn with
  | ind n ih =>
    by_cases c : n < A + 2 * rs.length + 2 * rs'.length
    · exact win n c
    · have hp := h.p1
      have hq := h'.p1
      obtain ⟨m, rfl⟩ : ∃ m, n = A + m + 2 * rs.length + 2 * rs'.length := ⟨n - (A + 2 * rs.length + 2 * rs'.length), by omega⟩
      generalize hk : A + m = k at *
      have f1 := sh_two h (n := k + 2 * rs'.length) (by omega)
      have f2 := sh_two h (n := k + rs'.length) (by omega)
      have f3 := sh_two h (n := k) (by omega)
      have g1 := sh_two h' (n := k + 2 * rs.length) (by omega)
      have g2 := sh_two h' (n := k + rs.length) (by omega)
      have g3 := sh_two h' (n := k) (by omega)
      have i1 := ih k (by omega)
      have i2 := ih (k + rs.length) (by omega)
      have i3 := ih (k + 2 * rs.length) (by omega)
      have i4 := ih (k + rs'.length) (by omega)
      have i5 := ih (k + 2 * rs'.length) (by omega)
      have i6 := ih (k + rs.length + rs'.length) (by omega)
      have i7 := ih (k + 2 * rs.length + rs'.length) (by omega)
      have i8 := ih (k + rs.length + 2 * rs'.length) (by omega)
      rw [show k + 2 * rs'.length + 2 * rs.length = k + 2 * rs.length + 2 * rs'.length by omega, show k + 2 * rs'.length + rs.length = k + rs.length + 2 * rs'.length by omega] at f1
      rw [show k + rs'.length + 2 * rs.length = k + 2 * rs.length + rs'.length by omega, show k + rs'.length + rs.length = k + rs.length + rs'.length by omega] at f2
      omega
/-- where two rows are first parted, from k on among so many -/
def fd (f g : Nat → Int) : Nat → Nat → Option Nat
  | _, 0 => none
  | k, m + 1 => if f k = g k then fd f g (k + 1) m else some k
theorem fd_none {f g : Nat → Int} : ∀ {m k : Nat}, (∀ j, k ≤ j → j < k + m → f j = g j) → fd f g k m = none
  | 0, _, _ => rfl
  | m + 1, k, h => by
    rw [fd, if_pos (h k (by omega) (by omega))]
    exact fd_none fun j h1 h2 => h j (by omega) (by omega)
theorem fd_all {f g : Nat → Int} : ∀ {m k : Nat}, fd f g k m = none → ∀ j, k ≤ j → j < k + m → f j = g j
  | 0, _, _, j, h1, h2 => by omega
  | m + 1, k, h, j, h1, h2 => by
    rw [fd] at h
    by_cases c : f k = g k
    · rw [if_pos c] at h
      by_cases e : j = k
      · rw [e]; exact c
      · exact fd_all h j (by omega) (by omega)
    · rw [if_neg c] at h; cases h
theorem fd_more {f g : Nat → Int} : ∀ {m k i : Nat} (x : Nat), fd f g k m = some i → fd f g k (m + x) = some i
  | 0, _, _, _, h => by cases h
  | m + 1, k, i, x, h => by
    rw [show m + 1 + x = (m + x) + 1 by omega, fd]
    rw [fd] at h
    by_cases c : f k = g k
    · rw [if_pos c] at h ⊢; exact fd_more x h
    · rw [if_neg c] at h ⊢; exact h
theorem fd_turn {f g : Nat → Int} : ∀ {m k : Nat}, fd g f k m = fd f g k m
  | 0, _ => rfl
  | m + 1, k => by
    rw [fd, fd]
    by_cases c : f k = g k
    · rw [if_pos c, if_pos c.symm]; exact fd_turn
    · rw [if_neg c, if_neg fun e => c e.symm]
@[irreducible] def told (f g : Nat → Int) (many : Nat) : Option Nat → PD
  | some n => .tup [.str "parted", .int n, .int (f n), .int (g n)]
  | none => .tup [.str "alike", .int many]
/-- how many shells are enough -/
@[irreducible] def en (ms rs ms' rs' : List Int) : Nat := max ms.length ms'.length - min rs.length rs'.length + 2 * (rs.length + rs'.length)
theorem enough_eq {ms rs ms' rs' : List Int} (h : RwOk ms rs) (h' : RwOk ms' rs') : d_enough_shells [Row ms rs, Row ms' rs'] = .ok (.v (.int (en ms rs ms' rs'))) := by
  have at0 : ∀ ms rs : List Int, atI [tupI ms, tupI rs] 0 = some (.tup (ms.map PD.int)) := fun _ _ => rfl
  have at1 : ∀ ms rs : List Int, atI [tupI ms, tupI rs] 1 = some (.tup (rs.map PD.int)) := fun _ _ => rfl
  have m2 : ∀ z : Int, mulOk 2 z := fun z => mulOk_l (by decide)
  have e1 : uSem .min1 (.lst [.int rs.length, .int rs'.length]) = .ok (.v (.int ((min rs.length rs'.length : Nat) : Int))) := by
    rw [u_min]
    have : ints? [PD.int rs'.length] = some [(rs'.length : Int)] := rfl
    rw [this]
    show R.ok (Sl.v (.int (if (rs'.length : Int) < rs.length then (rs'.length : Int) else rs.length))) = _
    have : (if (rs'.length : Int) < rs.length then (rs'.length : Int) else rs.length) = ((min rs.length rs'.length : Nat) : Int) := by split <;> omega
    rw [this]
  have e2 : ints? [PD.int rs.length, .int rs'.length] = some [(rs.length : Int), (rs'.length : Int)] := rfl
  rw [t_enough_shells]
  simp only [asP_v, asP_l, asP_k, asB_ok, asI_ok, nox_ok, b_add, b_adds, b_addt, b_addl, b_sub, b_mul, b_fdiv, b_mod, b_pow, b_eq, b_ne, b_lt, b_le, b_gt, b_ge, b_is, b_isn, b_inn, b_nin, b_idxl, b_idxt, b_max, b_min, u_neg, u_lenl, u_lent, u_abs, u_int, u_intb, u_tupl, u_tupt, u_lstl, u_lstt, u_str, u_strs, u_all, u_any, u_sum, seq_l, seq_t, seq_s, sl_l, sl_t, sl_s, is_NoneType_int, is_NoneType_bool, is_NoneType_tuple, is_NoneType_list, is_NoneType_str, is_bool_int, is_bool_bool, is_bool_tuple, is_bool_list, is_bool_str, is_int_int, is_int_bool, is_int_tuple, is_int_list, is_int_str, is_str_int, is_str_bool, is_str_tuple, is_str_list, is_str_str, is_tuple_int, is_tuple_bool, is_tuple_tuple, is_tuple_list, is_tuple_str, is_list_int, is_list_bool, is_list_tuple, is_list_list, is_list_str, is_dict_int, is_dict_bool, is_dict_tuple, is_dict_list, is_dict_str, selE_t, selE_f, evB_at, evP_at, r_pass, r_set, r_own, r_frz, r_unp, r_par, r_app, r_popd, r_popa, r_swp, r_expr, r_ret, r_retm, r_retn, r_ifs, r_whl, r_fr, r_brk, r_cnt, r_raise, r_nil, e_var, e_lit, e_glo, e_u, e_b, e_isi, e_slc, e_rep, e_and, e_or, e_not, e_ite, e_chn, e_chn3, ch3_at, e_qcall, nox_ok, e_mth, e_mkx, mk_index, mk_join, mk_split, m_join, e_lrng, b_divm, e_tup, e_lst, e_call, e_comp, e_bor, e_d0, e_d1, e_pget, r_pput, u_max, u_min, e_oget, e_kin, e_kget, e_kgetd, e_klen, e_sset, e_sortk, r_kput, r_ins, r_ext, r_put, r_pop, e_rev, es_nil, es_cons, eo_no, eo_yes, ei_seq, ei_rng, ei_zip, ei_enm, szle0, szlt0, szle1, szlt1, szle2, szlt2, szle3, szlt3, szle4, szlt4, szle5, szlt5, szle6, szlt6, szle7, szlt7, szle8, szlt8, szle9, szlt9, szle10, szlt10, szle11, szlt11, szle12, szlt12, szle13, szlt13, szle14, szlt14, szle15, szlt15, szle16, szlt16, szle17, szlt17, szle18, szlt18, szle19, szlt19, szle20, szlt20, szle21, szlt21, szle22, szlt22, szle23, szlt23, szle24, szlt24, szle25, szlt25, szle26, szlt26, szle27, szlt27, szle28, szlt28, szle29, szlt29, szle30, szlt30, eqS_int, isS_bl, R.bind_ok, R.out_ok, Sl.pd_v, Sl.pd_l, Sl.pd_k, List.set_cons_zero, List.set_cons_succ, List.getElem?_cons_zero, List.getElem?_cons_succ, List.getElem?_nil, Option.getD_some, Option.getD_none, if_true, Bool.false_eq_true, if_false, bt_nm, bt_tup, bt_lst, bts_nil, bts_cons, wipeE, start0, List.length_cons, List.length_nil, List.replicate, List.cons_append, List.nil_append, List.map_cons, List.map_nil, Nat.reduceAdd, Nat.reduceSub, Nat.zero_add, Bool.not_true, Bool.not_false, decide_true, decide_false, cg_nil, cg_cons, bls_nil, bls_cons, tst_at, cst_at, ch2_at, isB_ok, isI_ok, PD.flat, ne_eq, not_false_eq_true, Int.reduceEq, Int.reduceToNat, Int.reducePow, Int.reduceLT, Int.reduceLE, Int.reduceMul, Int.reduceAdd, Int.reduceSub, pow9, pow16, pow18, pow57, pow60, r_seq, go_nx, go_ct, go_bk, go_rt, go_ex, sel_t, sel_f, res_rt, res_nx, res_ex, R.bind_ex, R.out_ex, r_raise, r_tryc, r_tryn, ca_ex, ca_nx, ca_rt, b_enough_shells, Row, at0, at1, List.length_map, m2, e1, e2]
  congr 3
  unfold en
  have := h.l1
  have := h'.l1
  simp only [List.sum_cons, List.sum_nil]
  split <;> omega
theorem en_big {ms rs ms' rs' : List Int} (h : RwOk ms rs) (h' : RwOk ms' rs') : en ms rs ms' rs' < 1000 := by
  have := h.l2; have := h'.l2; have := h.p2; have := h'.p2
  unfold en; omega
theorem held_all {ms rs ms' rs' : List Int} (h : RwOk ms rs) (h' : RwOk ms' rs') (T : PD) (hT : told (sh ms rs) (sh ms' rs') (en ms rs ms' rs') (fd (sh ms rs) (sh ms' rs') 0 (en ms rs ms' rs')) = T) : (d_rows_held [Row ms rs, Row ms' rs']).All fun s => s = .v T := by
  have ee := enough_eq h h'
  have big := en_big h h'
  rw [q_rows_held]
  refine den_all rfl ?_
  simp only [asP_v, asP_l, asP_k, asB_ok, asI_ok, nox_ok, b_add, b_adds, b_addt, b_addl, b_sub, b_mul, b_fdiv, b_mod, b_pow, b_eq, b_ne, b_lt, b_le, b_gt, b_ge, b_is, b_isn, b_inn, b_nin, b_idxl, b_idxt, b_max, b_min, u_neg, u_lenl, u_lent, u_abs, u_int, u_intb, u_tupl, u_tupt, u_lstl, u_lstt, u_str, u_strs, u_all, u_any, u_sum, seq_l, seq_t, seq_s, sl_l, sl_t, sl_s, is_NoneType_int, is_NoneType_bool, is_NoneType_tuple, is_NoneType_list, is_NoneType_str, is_bool_int, is_bool_bool, is_bool_tuple, is_bool_list, is_bool_str, is_int_int, is_int_bool, is_int_tuple, is_int_list, is_int_str, is_str_int, is_str_bool, is_str_tuple, is_str_list, is_str_str, is_tuple_int, is_tuple_bool, is_tuple_tuple, is_tuple_list, is_tuple_str, is_list_int, is_list_bool, is_list_tuple, is_list_list, is_list_str, is_dict_int, is_dict_bool, is_dict_tuple, is_dict_list, is_dict_str, R.all_ok, selE_t, selE_f, evB_at, evP_at, r_pass, r_set, r_own, r_frz, r_unp, r_par, r_app, r_popd, r_popa, r_swp, r_expr, r_ret, r_retm, r_retn, r_ifs, r_whl, r_fr, r_brk, r_cnt, r_raise, r_nil, e_var, e_lit, e_glo, e_u, e_b, e_isi, e_slc, e_rep, e_and, e_or, e_not, e_ite, e_chn, e_chn3, ch3_at, e_qcall, nox_ok, e_mth, e_mkx, mk_index, mk_join, mk_split, m_join, e_lrng, b_divm, e_tup, e_lst, e_call, e_comp, e_bor, e_d0, e_d1, e_pget, r_pput, u_max, u_min, e_oget, e_kin, e_kget, e_kgetd, e_klen, e_sset, e_sortk, r_kput, r_ins, r_ext, r_put, r_pop, e_rev, R.all_ask, es_nil, es_cons, eo_no, eo_yes, ei_seq, ei_rng, ei_zip, ei_enm, szle0, szlt0, szle1, szlt1, szle2, szlt2, szle3, szlt3, szle4, szlt4, szle5, szlt5, szle6, szlt6, szle7, szlt7, szle8, szlt8, szle9, szlt9, szle10, szlt10, szle11, szlt11, szle12, szlt12, szle13, szlt13, szle14, szlt14, szle15, szlt15, szle16, szlt16, szle17, szlt17, szle18, szlt18, szle19, szlt19, szle20, szlt20, szle21, szlt21, szle22, szlt22, szle23, szlt23, szle24, szlt24, szle25, szlt25, szle26, szlt26, szle27, szlt27, szle28, szlt28, szle29, szlt29, szle30, szlt30, Out.wp_nx, Out.wp_rt, Out.wp_bk, Out.wp_ct, eqS_int, isS_bl, R.bind_ok, R.out_ok, Sl.pd_v, Sl.pd_l, Sl.pd_k, List.set_cons_zero, List.set_cons_succ, List.getElem?_cons_zero, List.getElem?_cons_succ, List.getElem?_nil, Option.getD_some, Option.getD_none, if_true, Bool.false_eq_true, if_false, bt_nm, bt_tup, bt_lst, bts_nil, bts_cons, wipeE, start0, List.length_cons, List.length_nil, List.replicate, List.cons_append, List.nil_append, List.map_cons, List.map_nil, Nat.reduceAdd, Nat.reduceSub, Nat.zero_add, Bool.not_true, Bool.not_false, decide_true, decide_false, cg_nil, cg_cons, bls_nil, bls_cons, tst_at, cst_at, ch2_at, w_seq, w_sel, rest_nil, Out.wp_out, isB_ok, isI_ok, PD.flat, ne_eq, not_false_eq_true, Int.reduceEq, Int.reduceToNat, Int.reducePow, Int.reduceLT, Int.reduceLE, Int.reduceMul, Int.reduceAdd, Int.reduceSub, pow9, pow16, pow18, pow57, pow60, b_rows_held, gf_rows_held_0, gf_rows_held_1, ee]
  generalize en ms rs ms' rs' = many at *
  have er : rngItems 0 (many : Int) = (List.range many).map fun (i : Nat) => PD.int i := by rw [rng_nat, Int.toNat_natCast]
  obtain ⟨m, hm⟩ : ∃ m : Int, m = (many : Int) := ⟨_, rfl⟩
  rw [← hm] at er ⊢
  have h0 : 0 ≤ m := by omega
  have h1 : m < 2 ^ 62 := by omega
  have ru := rng_up (smallI_of h0 h1)
  (refine Rest.mk ?_; simp only [asP_v, asP_l, asP_k, asB_ok, asI_ok, nox_ok, b_add, b_adds, b_addt, b_addl, b_sub, b_mul, b_fdiv, b_mod, b_pow, b_eq, b_ne, b_lt, b_le, b_gt, b_ge, b_is, b_isn, b_inn, b_nin, b_idxl, b_idxt, b_max, b_min, u_neg, u_lenl, u_lent, u_abs, u_int, u_intb, u_tupl, u_tupt, u_lstl, u_lstt, u_str, u_strs, u_all, u_any, u_sum, seq_l, seq_t, seq_s, sl_l, sl_t, sl_s, is_NoneType_int, is_NoneType_bool, is_NoneType_tuple, is_NoneType_list, is_NoneType_str, is_bool_int, is_bool_bool, is_bool_tuple, is_bool_list, is_bool_str, is_int_int, is_int_bool, is_int_tuple, is_int_list, is_int_str, is_str_int, is_str_bool, is_str_tuple, is_str_list, is_str_str, is_tuple_int, is_tuple_bool, is_tuple_tuple, is_tuple_list, is_tuple_str, is_list_int, is_list_bool, is_list_tuple, is_list_list, is_list_str, is_dict_int, is_dict_bool, is_dict_tuple, is_dict_list, is_dict_str, R.all_ok, selE_t, selE_f, evB_at, evP_at, r_pass, r_set, r_own, r_frz, r_unp, r_par, r_app, r_popd, r_popa, r_swp, r_expr, r_ret, r_retm, r_retn, r_ifs, r_whl, r_fr, r_brk, r_cnt, r_raise, r_nil, e_var, e_lit, e_glo, e_u, e_b, e_isi, e_slc, e_rep, e_and, e_or, e_not, e_ite, e_chn, e_chn3, ch3_at, e_qcall, nox_ok, e_mth, e_mkx, mk_index, mk_join, mk_split, m_join, e_lrng, b_divm, e_tup, e_lst, e_call, e_comp, e_bor, e_d0, e_d1, e_pget, r_pput, u_max, u_min, e_oget, e_kin, e_kget, e_kgetd, e_klen, e_sset, e_sortk, r_kput, r_ins, r_ext, r_put, r_pop, e_rev, R.all_ask, es_nil, es_cons, eo_no, eo_yes, ei_seq, ei_rng, ei_zip, ei_enm, szle0, szlt0, szle1, szlt1, szle2, szlt2, szle3, szlt3, szle4, szlt4, szle5, szlt5, szle6, szlt6, szle7, szlt7, szle8, szlt8, szle9, szlt9, szle10, szlt10, szle11, szlt11, szle12, szlt12, szle13, szlt13, szle14, szlt14, szle15, szlt15, szle16, szlt16, szle17, szlt17, szle18, szlt18, szle19, szlt19, szle20, szlt20, szle21, szlt21, szle22, szlt22, szle23, szlt23, szle24, szlt24, szle25, szlt25, szle26, szlt26, szle27, szlt27, szle28, szlt28, szle29, szlt29, szle30, szlt30, Out.wp_nx, Out.wp_rt, Out.wp_bk, Out.wp_ct, eqS_int, isS_bl, R.bind_ok, R.out_ok, Sl.pd_v, Sl.pd_l, Sl.pd_k, List.set_cons_zero, List.set_cons_succ, List.getElem?_cons_zero, List.getElem?_cons_succ, List.getElem?_nil, Option.getD_some, Option.getD_none, if_true, Bool.false_eq_true, if_false, bt_nm, bt_tup, bt_lst, bts_nil, bts_cons, wipeE, start0, List.length_cons, List.length_nil, List.replicate, List.cons_append, List.nil_append, List.map_cons, List.map_nil, Nat.reduceAdd, Nat.reduceSub, Nat.zero_add, Bool.not_true, Bool.not_false, decide_true, decide_false, cg_nil, cg_cons, bls_nil, bls_cons, tst_at, cst_at, ch2_at, w_seq, w_sel, rest_nil, Out.wp_out, isB_ok, isI_ok, PD.flat, ne_eq, not_false_eq_true, Int.reduceEq, Int.reduceToNat, Int.reducePow, Int.reduceLT, Int.reduceLE, Int.reduceMul, Int.reduceAdd, Int.reduceSub, pow9, pow16, pow18, pow57, pow60, ru, er])
  refine runF_wp (fun xs ρ => ∃ (k : Nat) (o3 o4 o5 : Option Sl), k + xs.length = many ∧ xs = (List.range' k xs.length).map (fun (i : Nat) => PD.int i) ∧ fd (sh ms rs) (sh ms' rs') 0 many = fd (sh ms rs) (sh ms' rs') k xs.length ∧ ρ = [some (.v (Row ms rs)), some (.v (Row ms' rs')), some (.v (.int m)), o3, o4, o5]) ?_ ?_ ⟨0, none, none, none, by simp, by simp [List.range_eq_range'], by simp, rfl⟩
  · rintro x xs ρ ⟨k, o3, o4, o5, hk, hx, hf, rfl⟩
    rw [List.length_cons, List.range'_succ, List.map_cons, List.cons.injEq] at hx
    obtain ⟨rfl, hx⟩ := hx
    rw [List.length_cons] at hk hf
    have e1 := row_shell_eq h k (by omega)
    have e2 := row_shell_eq h' k (by omega)
    obtain ⟨z, hz⟩ : ∃ z : Int, z = (k : Int) := ⟨_, rfl⟩
    show (bindT _ (PD.int (k : Int)) _).All _
    rw [← hz] at e1 e2 ⊢
    simp only [asP_v, asP_l, asP_k, asB_ok, asI_ok, nox_ok, b_add, b_adds, b_addt, b_addl, b_sub, b_mul, b_fdiv, b_mod, b_pow, b_eq, b_ne, b_lt, b_le, b_gt, b_ge, b_is, b_isn, b_inn, b_nin, b_idxl, b_idxt, b_max, b_min, u_neg, u_lenl, u_lent, u_abs, u_int, u_intb, u_tupl, u_tupt, u_lstl, u_lstt, u_str, u_strs, u_all, u_any, u_sum, seq_l, seq_t, seq_s, sl_l, sl_t, sl_s, is_NoneType_int, is_NoneType_bool, is_NoneType_tuple, is_NoneType_list, is_NoneType_str, is_bool_int, is_bool_bool, is_bool_tuple, is_bool_list, is_bool_str, is_int_int, is_int_bool, is_int_tuple, is_int_list, is_int_str, is_str_int, is_str_bool, is_str_tuple, is_str_list, is_str_str, is_tuple_int, is_tuple_bool, is_tuple_tuple, is_tuple_list, is_tuple_str, is_list_int, is_list_bool, is_list_tuple, is_list_list, is_list_str, is_dict_int, is_dict_bool, is_dict_tuple, is_dict_list, is_dict_str, R.all_ok, selE_t, selE_f, evB_at, evP_at, r_pass, r_set, r_own, r_frz, r_unp, r_par, r_app, r_popd, r_popa, r_swp, r_expr, r_ret, r_retm, r_retn, r_ifs, r_whl, r_fr, r_brk, r_cnt, r_raise, r_nil, e_var, e_lit, e_glo, e_u, e_b, e_isi, e_slc, e_rep, e_and, e_or, e_not, e_ite, e_chn, e_chn3, ch3_at, e_qcall, nox_ok, e_mth, e_mkx, mk_index, mk_join, mk_split, m_join, e_lrng, b_divm, e_tup, e_lst, e_call, e_comp, e_bor, e_d0, e_d1, e_pget, r_pput, u_max, u_min, e_oget, e_kin, e_kget, e_kgetd, e_klen, e_sset, e_sortk, r_kput, r_ins, r_ext, r_put, r_pop, e_rev, R.all_ask, es_nil, es_cons, eo_no, eo_yes, ei_seq, ei_rng, ei_zip, ei_enm, szle0, szlt0, szle1, szlt1, szle2, szlt2, szle3, szlt3, szle4, szlt4, szle5, szlt5, szle6, szlt6, szle7, szlt7, szle8, szlt8, szle9, szlt9, szle10, szlt10, szle11, szlt11, szle12, szlt12, szle13, szlt13, szle14, szlt14, szle15, szlt15, szle16, szlt16, szle17, szlt17, szle18, szlt18, szle19, szlt19, szle20, szlt20, szle21, szlt21, szle22, szlt22, szle23, szlt23, szle24, szlt24, szle25, szlt25, szle26, szlt26, szle27, szlt27, szle28, szlt28, szle29, szlt29, szle30, szlt30, Out.wp_nx, Out.wp_rt, Out.wp_bk, Out.wp_ct, eqS_int, isS_bl, R.bind_ok, R.out_ok, Sl.pd_v, Sl.pd_l, Sl.pd_k, List.set_cons_zero, List.set_cons_succ, List.getElem?_cons_zero, List.getElem?_cons_succ, List.getElem?_nil, Option.getD_some, Option.getD_none, if_true, Bool.false_eq_true, if_false, bt_nm, bt_tup, bt_lst, bts_nil, bts_cons, wipeE, start0, List.length_cons, List.length_nil, List.replicate, List.cons_append, List.nil_append, List.map_cons, List.map_nil, Nat.reduceAdd, Nat.reduceSub, Nat.zero_add, Bool.not_true, Bool.not_false, decide_true, decide_false, cg_nil, cg_cons, bls_nil, bls_cons, tst_at, cst_at, ch2_at, w_seq, w_sel, rest_nil, Out.wp_out, isB_ok, isI_ok, PD.flat, ne_eq, not_false_eq_true, Int.reduceEq, Int.reduceToNat, Int.reducePow, Int.reduceLT, Int.reduceLE, Int.reduceMul, Int.reduceAdd, Int.reduceSub, pow9, pow16, pow18, pow57, pow60, w_rows_held_0, gf_rows_held_0, gf_rows_held_1, e1]
    (refine Rest.mk ?_; simp only [asP_v, asP_l, asP_k, asB_ok, asI_ok, nox_ok, b_add, b_adds, b_addt, b_addl, b_sub, b_mul, b_fdiv, b_mod, b_pow, b_eq, b_ne, b_lt, b_le, b_gt, b_ge, b_is, b_isn, b_inn, b_nin, b_idxl, b_idxt, b_max, b_min, u_neg, u_lenl, u_lent, u_abs, u_int, u_intb, u_tupl, u_tupt, u_lstl, u_lstt, u_str, u_strs, u_all, u_any, u_sum, seq_l, seq_t, seq_s, sl_l, sl_t, sl_s, is_NoneType_int, is_NoneType_bool, is_NoneType_tuple, is_NoneType_list, is_NoneType_str, is_bool_int, is_bool_bool, is_bool_tuple, is_bool_list, is_bool_str, is_int_int, is_int_bool, is_int_tuple, is_int_list, is_int_str, is_str_int, is_str_bool, is_str_tuple, is_str_list, is_str_str, is_tuple_int, is_tuple_bool, is_tuple_tuple, is_tuple_list, is_tuple_str, is_list_int, is_list_bool, is_list_tuple, is_list_list, is_list_str, is_dict_int, is_dict_bool, is_dict_tuple, is_dict_list, is_dict_str, R.all_ok, selE_t, selE_f, evB_at, evP_at, r_pass, r_set, r_own, r_frz, r_unp, r_par, r_app, r_popd, r_popa, r_swp, r_expr, r_ret, r_retm, r_retn, r_ifs, r_whl, r_fr, r_brk, r_cnt, r_raise, r_nil, e_var, e_lit, e_glo, e_u, e_b, e_isi, e_slc, e_rep, e_and, e_or, e_not, e_ite, e_chn, e_chn3, ch3_at, e_qcall, nox_ok, e_mth, e_mkx, mk_index, mk_join, mk_split, m_join, e_lrng, b_divm, e_tup, e_lst, e_call, e_comp, e_bor, e_d0, e_d1, e_pget, r_pput, u_max, u_min, e_oget, e_kin, e_kget, e_kgetd, e_klen, e_sset, e_sortk, r_kput, r_ins, r_ext, r_put, r_pop, e_rev, R.all_ask, es_nil, es_cons, eo_no, eo_yes, ei_seq, ei_rng, ei_zip, ei_enm, szle0, szlt0, szle1, szlt1, szle2, szlt2, szle3, szlt3, szle4, szlt4, szle5, szlt5, szle6, szlt6, szle7, szlt7, szle8, szlt8, szle9, szlt9, szle10, szlt10, szle11, szlt11, szle12, szlt12, szle13, szlt13, szle14, szlt14, szle15, szlt15, szle16, szlt16, szle17, szlt17, szle18, szlt18, szle19, szlt19, szle20, szlt20, szle21, szlt21, szle22, szlt22, szle23, szlt23, szle24, szlt24, szle25, szlt25, szle26, szlt26, szle27, szlt27, szle28, szlt28, szle29, szlt29, szle30, szlt30, Out.wp_nx, Out.wp_rt, Out.wp_bk, Out.wp_ct, eqS_int, isS_bl, R.bind_ok, R.out_ok, Sl.pd_v, Sl.pd_l, Sl.pd_k, List.set_cons_zero, List.set_cons_succ, List.getElem?_cons_zero, List.getElem?_cons_succ, List.getElem?_nil, Option.getD_some, Option.getD_none, if_true, Bool.false_eq_true, if_false, bt_nm, bt_tup, bt_lst, bts_nil, bts_cons, wipeE, start0, List.length_cons, List.length_nil, List.replicate, List.cons_append, List.nil_append, List.map_cons, List.map_nil, Nat.reduceAdd, Nat.reduceSub, Nat.zero_add, Bool.not_true, Bool.not_false, decide_true, decide_false, cg_nil, cg_cons, bls_nil, bls_cons, tst_at, cst_at, ch2_at, w_seq, w_sel, rest_nil, Out.wp_out, isB_ok, isI_ok, PD.flat, ne_eq, not_false_eq_true, Int.reduceEq, Int.reduceToNat, Int.reducePow, Int.reduceLT, Int.reduceLE, Int.reduceMul, Int.reduceAdd, Int.reduceSub, pow9, pow16, pow18, pow57, pow60, gf_rows_held_0, gf_rows_held_1, e2])
    rw [fd] at hf
    by_cases c : sh ms rs k = sh ms' rs' k
    · rw [if_pos c] at hf
      (refine Rest.mk ?_; simp only [asP_v, asP_l, asP_k, asB_ok, asI_ok, nox_ok, b_add, b_adds, b_addt, b_addl, b_sub, b_mul, b_fdiv, b_mod, b_pow, b_eq, b_ne, b_lt, b_le, b_gt, b_ge, b_is, b_isn, b_inn, b_nin, b_idxl, b_idxt, b_max, b_min, u_neg, u_lenl, u_lent, u_abs, u_int, u_intb, u_tupl, u_tupt, u_lstl, u_lstt, u_str, u_strs, u_all, u_any, u_sum, seq_l, seq_t, seq_s, sl_l, sl_t, sl_s, is_NoneType_int, is_NoneType_bool, is_NoneType_tuple, is_NoneType_list, is_NoneType_str, is_bool_int, is_bool_bool, is_bool_tuple, is_bool_list, is_bool_str, is_int_int, is_int_bool, is_int_tuple, is_int_list, is_int_str, is_str_int, is_str_bool, is_str_tuple, is_str_list, is_str_str, is_tuple_int, is_tuple_bool, is_tuple_tuple, is_tuple_list, is_tuple_str, is_list_int, is_list_bool, is_list_tuple, is_list_list, is_list_str, is_dict_int, is_dict_bool, is_dict_tuple, is_dict_list, is_dict_str, R.all_ok, selE_t, selE_f, evB_at, evP_at, r_pass, r_set, r_own, r_frz, r_unp, r_par, r_app, r_popd, r_popa, r_swp, r_expr, r_ret, r_retm, r_retn, r_ifs, r_whl, r_fr, r_brk, r_cnt, r_raise, r_nil, e_var, e_lit, e_glo, e_u, e_b, e_isi, e_slc, e_rep, e_and, e_or, e_not, e_ite, e_chn, e_chn3, ch3_at, e_qcall, nox_ok, e_mth, e_mkx, mk_index, mk_join, mk_split, m_join, e_lrng, b_divm, e_tup, e_lst, e_call, e_comp, e_bor, e_d0, e_d1, e_pget, r_pput, u_max, u_min, e_oget, e_kin, e_kget, e_kgetd, e_klen, e_sset, e_sortk, r_kput, r_ins, r_ext, r_put, r_pop, e_rev, R.all_ask, es_nil, es_cons, eo_no, eo_yes, ei_seq, ei_rng, ei_zip, ei_enm, szle0, szlt0, szle1, szlt1, szle2, szlt2, szle3, szlt3, szle4, szlt4, szle5, szlt5, szle6, szlt6, szle7, szlt7, szle8, szlt8, szle9, szlt9, szle10, szlt10, szle11, szlt11, szle12, szlt12, szle13, szlt13, szle14, szlt14, szle15, szlt15, szle16, szlt16, szle17, szlt17, szle18, szlt18, szle19, szlt19, szle20, szlt20, szle21, szlt21, szle22, szlt22, szle23, szlt23, szle24, szlt24, szle25, szlt25, szle26, szlt26, szle27, szlt27, szle28, szlt28, szle29, szlt29, szle30, szlt30, Out.wp_nx, Out.wp_rt, Out.wp_bk, Out.wp_ct, eqS_int, isS_bl, R.bind_ok, R.out_ok, Sl.pd_v, Sl.pd_l, Sl.pd_k, List.set_cons_zero, List.set_cons_succ, List.getElem?_cons_zero, List.getElem?_cons_succ, List.getElem?_nil, Option.getD_some, Option.getD_none, if_true, Bool.false_eq_true, if_false, bt_nm, bt_tup, bt_lst, bts_nil, bts_cons, wipeE, start0, List.length_cons, List.length_nil, List.replicate, List.cons_append, List.nil_append, List.map_cons, List.map_nil, Nat.reduceAdd, Nat.reduceSub, Nat.zero_add, Bool.not_true, Bool.not_false, decide_true, decide_false, cg_nil, cg_cons, bls_nil, bls_cons, tst_at, cst_at, ch2_at, w_seq, w_sel, rest_nil, Out.wp_out, isB_ok, isI_ok, PD.flat, ne_eq, not_false_eq_true, Int.reduceEq, Int.reduceToNat, Int.reducePow, Int.reduceLT, Int.reduceLE, Int.reduceMul, Int.reduceAdd, Int.reduceSub, pow9, pow16, pow18, pow57, pow60, c])
      exact ⟨k + 1, _, _, _, by omega, hx, hf, rfl⟩
    · rw [if_neg c] at hf
      (refine Rest.mk ?_; simp only [asP_v, asP_l, asP_k, asB_ok, asI_ok, nox_ok, b_add, b_adds, b_addt, b_addl, b_sub, b_mul, b_fdiv, b_mod, b_pow, b_eq, b_ne, b_lt, b_le, b_gt, b_ge, b_is, b_isn, b_inn, b_nin, b_idxl, b_idxt, b_max, b_min, u_neg, u_lenl, u_lent, u_abs, u_int, u_intb, u_tupl, u_tupt, u_lstl, u_lstt, u_str, u_strs, u_all, u_any, u_sum, seq_l, seq_t, seq_s, sl_l, sl_t, sl_s, is_NoneType_int, is_NoneType_bool, is_NoneType_tuple, is_NoneType_list, is_NoneType_str, is_bool_int, is_bool_bool, is_bool_tuple, is_bool_list, is_bool_str, is_int_int, is_int_bool, is_int_tuple, is_int_list, is_int_str, is_str_int, is_str_bool, is_str_tuple, is_str_list, is_str_str, is_tuple_int, is_tuple_bool, is_tuple_tuple, is_tuple_list, is_tuple_str, is_list_int, is_list_bool, is_list_tuple, is_list_list, is_list_str, is_dict_int, is_dict_bool, is_dict_tuple, is_dict_list, is_dict_str, R.all_ok, selE_t, selE_f, evB_at, evP_at, r_pass, r_set, r_own, r_frz, r_unp, r_par, r_app, r_popd, r_popa, r_swp, r_expr, r_ret, r_retm, r_retn, r_ifs, r_whl, r_fr, r_brk, r_cnt, r_raise, r_nil, e_var, e_lit, e_glo, e_u, e_b, e_isi, e_slc, e_rep, e_and, e_or, e_not, e_ite, e_chn, e_chn3, ch3_at, e_qcall, nox_ok, e_mth, e_mkx, mk_index, mk_join, mk_split, m_join, e_lrng, b_divm, e_tup, e_lst, e_call, e_comp, e_bor, e_d0, e_d1, e_pget, r_pput, u_max, u_min, e_oget, e_kin, e_kget, e_kgetd, e_klen, e_sset, e_sortk, r_kput, r_ins, r_ext, r_put, r_pop, e_rev, R.all_ask, es_nil, es_cons, eo_no, eo_yes, ei_seq, ei_rng, ei_zip, ei_enm, szle0, szlt0, szle1, szlt1, szle2, szlt2, szle3, szlt3, szle4, szlt4, szle5, szlt5, szle6, szlt6, szle7, szlt7, szle8, szlt8, szle9, szlt9, szle10, szlt10, szle11, szlt11, szle12, szlt12, szle13, szlt13, szle14, szlt14, szle15, szlt15, szle16, szlt16, szle17, szlt17, szle18, szlt18, szle19, szlt19, szle20, szlt20, szle21, szlt21, szle22, szlt22, szle23, szlt23, szle24, szlt24, szle25, szlt25, szle26, szlt26, szle27, szlt27, szle28, szlt28, szle29, szlt29, szle30, szlt30, Out.wp_nx, Out.wp_rt, Out.wp_bk, Out.wp_ct, eqS_int, isS_bl, R.bind_ok, R.out_ok, Sl.pd_v, Sl.pd_l, Sl.pd_k, List.set_cons_zero, List.set_cons_succ, List.getElem?_cons_zero, List.getElem?_cons_succ, List.getElem?_nil, Option.getD_some, Option.getD_none, if_true, Bool.false_eq_true, if_false, bt_nm, bt_tup, bt_lst, bts_nil, bts_cons, wipeE, start0, List.length_cons, List.length_nil, List.replicate, List.cons_append, List.nil_append, List.map_cons, List.map_nil, Nat.reduceAdd, Nat.reduceSub, Nat.zero_add, Bool.not_true, Bool.not_false, decide_true, decide_false, cg_nil, cg_cons, bls_nil, bls_cons, tst_at, cst_at, ch2_at, w_seq, w_sel, rest_nil, Out.wp_out, isB_ok, isI_ok, PD.flat, ne_eq, not_false_eq_true, Int.reduceEq, Int.reduceToNat, Int.reducePow, Int.reduceLT, Int.reduceLE, Int.reduceMul, Int.reduceAdd, Int.reduceSub, pow9, pow16, pow18, pow57, pow60, c])
      (refine Rest.mk ?_; simp only [asP_v, asP_l, asP_k, asB_ok, asI_ok, nox_ok, b_add, b_adds, b_addt, b_addl, b_sub, b_mul, b_fdiv, b_mod, b_pow, b_eq, b_ne, b_lt, b_le, b_gt, b_ge, b_is, b_isn, b_inn, b_nin, b_idxl, b_idxt, b_max, b_min, u_neg, u_lenl, u_lent, u_abs, u_int, u_intb, u_tupl, u_tupt, u_lstl, u_lstt, u_str, u_strs, u_all, u_any, u_sum, seq_l, seq_t, seq_s, sl_l, sl_t, sl_s, is_NoneType_int, is_NoneType_bool, is_NoneType_tuple, is_NoneType_list, is_NoneType_str, is_bool_int, is_bool_bool, is_bool_tuple, is_bool_list, is_bool_str, is_int_int, is_int_bool, is_int_tuple, is_int_list, is_int_str, is_str_int, is_str_bool, is_str_tuple, is_str_list, is_str_str, is_tuple_int, is_tuple_bool, is_tuple_tuple, is_tuple_list, is_tuple_str, is_list_int, is_list_bool, is_list_tuple, is_list_list, is_list_str, is_dict_int, is_dict_bool, is_dict_tuple, is_dict_list, is_dict_str, R.all_ok, selE_t, selE_f, evB_at, evP_at, r_pass, r_set, r_own, r_frz, r_unp, r_par, r_app, r_popd, r_popa, r_swp, r_expr, r_ret, r_retm, r_retn, r_ifs, r_whl, r_fr, r_brk, r_cnt, r_raise, r_nil, e_var, e_lit, e_glo, e_u, e_b, e_isi, e_slc, e_rep, e_and, e_or, e_not, e_ite, e_chn, e_chn3, ch3_at, e_qcall, nox_ok, e_mth, e_mkx, mk_index, mk_join, mk_split, m_join, e_lrng, b_divm, e_tup, e_lst, e_call, e_comp, e_bor, e_d0, e_d1, e_pget, r_pput, u_max, u_min, e_oget, e_kin, e_kget, e_kgetd, e_klen, e_sset, e_sortk, r_kput, r_ins, r_ext, r_put, r_pop, e_rev, R.all_ask, es_nil, es_cons, eo_no, eo_yes, ei_seq, ei_rng, ei_zip, ei_enm, szle0, szlt0, szle1, szlt1, szle2, szlt2, szle3, szlt3, szle4, szlt4, szle5, szlt5, szle6, szlt6, szle7, szlt7, szle8, szlt8, szle9, szlt9, szle10, szlt10, szle11, szlt11, szle12, szlt12, szle13, szlt13, szle14, szlt14, szle15, szlt15, szle16, szlt16, szle17, szlt17, szle18, szlt18, szle19, szlt19, szle20, szlt20, szle21, szlt21, szle22, szlt22, szle23, szlt23, szle24, szlt24, szle25, szlt25, szle26, szlt26, szle27, szlt27, szle28, szlt28, szle29, szlt29, szle30, szlt30, Out.wp_nx, Out.wp_rt, Out.wp_bk, Out.wp_ct, eqS_int, isS_bl, R.bind_ok, R.out_ok, Sl.pd_v, Sl.pd_l, Sl.pd_k, List.set_cons_zero, List.set_cons_succ, List.getElem?_cons_zero, List.getElem?_cons_succ, List.getElem?_nil, Option.getD_some, Option.getD_none, if_true, Bool.false_eq_true, if_false, bt_nm, bt_tup, bt_lst, bts_nil, bts_cons, wipeE, start0, List.length_cons, List.length_nil, List.replicate, List.cons_append, List.nil_append, List.map_cons, List.map_nil, Nat.reduceAdd, Nat.reduceSub, Nat.zero_add, Bool.not_true, Bool.not_false, decide_true, decide_false, cg_nil, cg_cons, bls_nil, bls_cons, tst_at, cst_at, ch2_at, w_seq, w_sel, rest_nil, Out.wp_out, isB_ok, isI_ok, PD.flat, ne_eq, not_false_eq_true, Int.reduceEq, Int.reduceToNat, Int.reducePow, Int.reduceLT, Int.reduceLE, Int.reduceMul, Int.reduceAdd, Int.reduceSub, pow9, pow16, pow18, pow57, pow60])
      rw [← hT, hf, told, ← hz]
  · rintro ρ ⟨k, o3, o4, o5, hk, hx, hf, rfl⟩
    rw [List.length_nil, fd] at hf
    (refine Rest.mk ?_; simp only [asP_v, asP_l, asP_k, asB_ok, asI_ok, nox_ok, b_add, b_adds, b_addt, b_addl, b_sub, b_mul, b_fdiv, b_mod, b_pow, b_eq, b_ne, b_lt, b_le, b_gt, b_ge, b_is, b_isn, b_inn, b_nin, b_idxl, b_idxt, b_max, b_min, u_neg, u_lenl, u_lent, u_abs, u_int, u_intb, u_tupl, u_tupt, u_lstl, u_lstt, u_str, u_strs, u_all, u_any, u_sum, seq_l, seq_t, seq_s, sl_l, sl_t, sl_s, is_NoneType_int, is_NoneType_bool, is_NoneType_tuple, is_NoneType_list, is_NoneType_str, is_bool_int, is_bool_bool, is_bool_tuple, is_bool_list, is_bool_str, is_int_int, is_int_bool, is_int_tuple, is_int_list, is_int_str, is_str_int, is_str_bool, is_str_tuple, is_str_list, is_str_str, is_tuple_int, is_tuple_bool, is_tuple_tuple, is_tuple_list, is_tuple_str, is_list_int, is_list_bool, is_list_tuple, is_list_list, is_list_str, is_dict_int, is_dict_bool, is_dict_tuple, is_dict_list, is_dict_str, R.all_ok, selE_t, selE_f, evB_at, evP_at, r_pass, r_set, r_own, r_frz, r_unp, r_par, r_app, r_popd, r_popa, r_swp, r_expr, r_ret, r_retm, r_retn, r_ifs, r_whl, r_fr, r_brk, r_cnt, r_raise, r_nil, e_var, e_lit, e_glo, e_u, e_b, e_isi, e_slc, e_rep, e_and, e_or, e_not, e_ite, e_chn, e_chn3, ch3_at, e_qcall, nox_ok, e_mth, e_mkx, mk_index, mk_join, mk_split, m_join, e_lrng, b_divm, e_tup, e_lst, e_call, e_comp, e_bor, e_d0, e_d1, e_pget, r_pput, u_max, u_min, e_oget, e_kin, e_kget, e_kgetd, e_klen, e_sset, e_sortk, r_kput, r_ins, r_ext, r_put, r_pop, e_rev, R.all_ask, es_nil, es_cons, eo_no, eo_yes, ei_seq, ei_rng, ei_zip, ei_enm, szle0, szlt0, szle1, szlt1, szle2, szlt2, szle3, szlt3, szle4, szlt4, szle5, szlt5, szle6, szlt6, szle7, szlt7, szle8, szlt8, szle9, szlt9, szle10, szlt10, szle11, szlt11, szle12, szlt12, szle13, szlt13, szle14, szlt14, szle15, szlt15, szle16, szlt16, szle17, szlt17, szle18, szlt18, szle19, szlt19, szle20, szlt20, szle21, szlt21, szle22, szlt22, szle23, szlt23, szle24, szlt24, szle25, szlt25, szle26, szlt26, szle27, szlt27, szle28, szlt28, szle29, szlt29, szle30, szlt30, Out.wp_nx, Out.wp_rt, Out.wp_bk, Out.wp_ct, eqS_int, isS_bl, R.bind_ok, R.out_ok, Sl.pd_v, Sl.pd_l, Sl.pd_k, List.set_cons_zero, List.set_cons_succ, List.getElem?_cons_zero, List.getElem?_cons_succ, List.getElem?_nil, Option.getD_some, Option.getD_none, if_true, Bool.false_eq_true, if_false, bt_nm, bt_tup, bt_lst, bts_nil, bts_cons, wipeE, start0, List.length_cons, List.length_nil, List.replicate, List.cons_append, List.nil_append, List.map_cons, List.map_nil, Nat.reduceAdd, Nat.reduceSub, Nat.zero_add, Bool.not_true, Bool.not_false, decide_true, decide_false, cg_nil, cg_cons, bls_nil, bls_cons, tst_at, cst_at, ch2_at, w_seq, w_sel, rest_nil, Out.wp_out, isB_ok, isI_ok, PD.flat, ne_eq, not_false_eq_true, Int.reduceEq, Int.reduceToNat, Int.reducePow, Int.reduceLT, Int.reduceLE, Int.reduceMul, Int.reduceAdd, Int.reduceSub, pow9, pow16, pow18, pow57, pow60])
    rw [← hT, hf, told, ← hm]
theorem fd_far {ms rs ms' rs' : List Int} (h : RwOk ms rs) (h' : RwOk ms' rs') (x : Nat) : fd (sh ms rs) (sh ms' rs') 0 (en ms rs ms' rs' + x) = fd (sh ms rs) (sh ms' rs') 0 (en ms rs ms' rs') := by
  cases e : fd (sh ms rs) (sh ms' rs') 0 (en ms rs ms' rs') with
  | some n => exact fd_more x e
  | none =>
    have := h.l1
    have := h'.l1
    have w := fd_all e
    refine fd_none fun j _ _ => agree h h' (max ms.length ms'.length - min rs.length rs'.length) (by omega) (by omega) (fun n hn => w n (by omega) (by unfold en; omega)) j

/-- a comprehension whose items and whose walk are drawn -/
theorem ev_map_it {α : Type} {g : Gs} {own : List (Str × Nat)} {t : Tg} {it e : E} {ρ : En} {β : Type} (emb : α → PD) (eb : β → PD) (Q : α → β → Prop) (P : Sl → Prop)
    (hi : (evi g it ρ).All fun xs => ∃ l : List α, xs = l.map emb ∧ l.length < sizeLine ∧ (∀ x ∈ l, ∃ ρ', bindT t (emb x) (wipeE ρ (own.map (·.2))) = .ok ρ' ∧ (asP (ev g e ρ')).All fun d => ∃ y, Q x y ∧ d = eb y) ∧
      ∀ ys : List β, ys.length = l.length → (∀ y ∈ ys, ∃ x ∈ l, Q x y) → P (.l (ys.map eb))) : (ev g (.comp own t it (.lit (.bl true)) e) ρ).All P := by
  rw [e_comp, R.all_bind]
  refine hi.mono ?_
  rintro _ ⟨l, rfl, hz, hb, hP⟩
  have ei : evi g (.seq (.lit (.lst (l.map emb)))) ρ = .ok (l.map emb) := by rw [ei_seq, e_lit, asP_v, R.bind_ok, seq_l]
  have key := ev_map_all (it := .seq (.lit (.lst (l.map emb)))) (ρ := ρ) emb eb Q l ei hz hb P hP
  rw [e_comp, ei, R.bind_ok] at key
  exact key

/-! texts of data -/
theorem ok_of (s : String) : PyData.strOk (Str.ofString s) = true := by
  show (Str.ofString s).cps.all (· < 0x110000) = true
  rw [← Array.all_toList, List.all_eq_true]
  intro c hc
  have e : (Str.ofString s).cps.toList = s.toList.map Char.toNat := by rw [Str.ofString_eq_toList]
  rw [e] at hc
  obtain ⟨ch, _, rfl⟩ := List.mem_map.mp hc
  have := ch.valid
  refine decide_eq_true ?_
  rcases this with h | ⟨h1, h2⟩
  · show ch.val.toNat < _
    have : ch.val.toNat < 0xd800 := h
    omega
  · exact h2
theorem ok_app {x y : Str} (h : PyData.strOk x = true) (h' : PyData.strOk y = true) : PyData.strOk (x ++ y) = true := by
  show (x.cps ++ y.cps).all (· < 0x110000) = true
  rw [Array.all_append]
  exact Bool.and_eq_true_iff.mpr ⟨h, h'⟩
theorem ok_from : ∀ (ts : List Str) (k : Nat) (acc : Str), PyData.strOk acc = true → (∀ t ∈ ts, PyData.strOk t = true) → PyData.strOk (textFrom k acc ts) = true
  | [], _, _, h, _ => h
  | t :: ts, k, acc, h, hs => ok_from ts (k + 1) _ (ok_app (ok_app h (ok_of _)) (hs t (List.mem_cons_self ..))) fun u hu => hs u (List.mem_cons_of_mem _ hu)
theorem ok_list (ts : List Str) (hs : ∀ t ∈ ts, PyData.strOk t = true) : PyData.strOk (listText ts) = true := ok_app (ok_from ts 0 _ (ok_of _) hs) (ok_of _)
theorem ok_tup (ts : List Str) (hs : ∀ t ∈ ts, PyData.strOk t = true) : PyData.strOk (tupleText ts) = true := by
  refine ok_app ?_ (by split <;> exact ok_of _)
  cases ts with
  | nil => exact ok_app (ok_of _) (by decide +kernel)
  | cons t ts =>
    rw [← textFrom_pos ts 1 "(" t (by decide)]
    exact ok_from ts 1 _ (ok_app (ok_of _) (hs t (List.mem_cons_self ..))) fun u hu => hs u (List.mem_cons_of_mem _ hu)
structure ShD (k n : Nat) (d : PyData) : Prop where
  sh : d.showable = true
  cl : d.canLay0 = true
  dp : d.depth ≤ k
  lv : d.leavesShort 1921 = true
  bk : d.bulk ≤ n
  ok : PyData.strOk d.shown = true
structure ShA (k n : Nat) (xs : List PyData) : Prop where
  sh : PyData.showableAll xs = true
  cl : PyData.canLayAll0 xs = true
  dp : PyData.depthAll xs ≤ k
  lv : PyData.leavesShortAll 1921 xs = true
  bk : PyData.bulkAll xs ≤ n
  ok : ∀ t ∈ PyData.shownAll xs, PyData.strOk t = true
theorem ShD.mono {k n k' n' : Nat} {d : PyData} (h : ShD k n d) (hk : k ≤ k') (hn : n ≤ n') : ShD k' n' d := ⟨h.sh, h.cl, Nat.le_trans h.dp hk, h.lv, Nat.le_trans h.bk hn, h.ok⟩
theorem ShD.int {i : Int} (h : i.natAbs.log2 < 1920) (k n : Nat) : ShD k n (.int i) where
  sh := by simp only [PyData.showable]; exact decide_eq_true h
  cl := rfl
  dp := by simp only [PyData.depth]; omega
  lv := by
    simp only [PyData.leavesShort, PyData.shown_int]
    exact decide_eq_true (PyProof.Rows.int_text_len_1921 h)
  bk := by simp only [PyData.bulk]; omega
  ok := by rw [PyData.shown_int]; exact ok_of _
theorem ShA.nil (k n : Nat) : ShA k n [] := ⟨rfl, rfl, by simp [PyData.depthAll], rfl, by simp [PyData.bulkAll], fun t ht => by simp [PyData.shownAll] at ht⟩
theorem ShA.cons {k n m : Nat} {x : PyData} {xs : List PyData} (h : ShD k n x) (t : ShA k m xs) : ShA k (n + 1 + m) (x :: xs) where
  sh := by simp only [PyData.showableAll, Bool.and_eq_true]; exact ⟨h.sh, t.sh⟩
  cl := by simp only [PyData.canLayAll0, Bool.and_eq_true]; exact ⟨h.cl, t.cl⟩
  dp := by
    simp only [PyData.depthAll]
    have := h.dp
    have := t.dp
    omega
  lv := by simp only [PyData.leavesShortAll, Bool.and_eq_true]; exact ⟨h.lv, t.lv⟩
  bk := by
    simp only [PyData.bulkAll]
    have := h.bk
    have := t.bk
    omega
  ok := fun u hu => by
    rw [PyData.shownAll_cons] at hu
    rcases List.mem_cons.mp hu with rfl | hu
    · exact h.ok
    · exact t.ok u hu
theorem ShA.tup {k n : Nat} {xs : List PyData} (h : ShA k n xs) : ShD (k + 1) n (.tuple xs) where
  sh := by simp only [PyData.showable]; exact h.sh
  cl := by simp only [PyData.canLay0]; exact h.cl
  dp := by
    simp only [PyData.depth]
    have := h.dp
    omega
  lv := by simp only [PyData.leavesShort]; exact h.lv
  bk := by simp only [PyData.bulk]; exact h.bk
  ok := by simp only [PyData.shown]; exact ok_tup _ h.ok
theorem ShA.lst {k n : Nat} {xs : List PyData} (h : ShA k n xs) : ShD (k + 1) n (.list xs) where
  sh := by simp only [PyData.showable]; exact h.sh
  cl := by simp only [PyData.canLay0]; exact h.cl
  dp := by
    simp only [PyData.depth]
    have := h.dp
    omega
  lv := by simp only [PyData.leavesShort]; exact h.lv
  bk := by simp only [PyData.bulk]; exact h.bk
  ok := by simp only [PyData.shown]; exact ok_list _ h.ok
theorem ShA.ints : ∀ {ns : List Int}, (∀ x ∈ ns, x.natAbs.log2 < 1920) → ∀ k, ShA k ns.length (pys (ns.map PD.int))
  | [], _, k => by
    show ShA k 0 []
    exact ShA.nil k 0
  | x :: ns, h, k => by
    show ShA k (ns.length + 1) (PyData.int x :: pys (ns.map PD.int))
    have := ShA.cons (ShD.int (h x (List.mem_cons_self ..)) k 0) (ShA.ints (ns := ns) (fun y hy => h y (List.mem_cons_of_mem _ hy)) k)
    rw [Nat.zero_add, Nat.add_comm] at this
    exact this
theorem ShD.shOk {d : PyData} (h : ShD 50 8000 d) : FS.shOk d = true := by
  unfold FS.shOk
  rw [h.sh, h.cl, h.lv, decide_eq_true h.dp, decide_eq_true h.bk]
  rfl
theorem strd_eq {xs : List PD} (h : ShD 50 8000 (.list (pys xs))) : ∃ u : Str, PyData.strOk u = true ∧ uSem .strd (.lst xs) = .ok (.v (.str u)) :=
  ⟨_, h.ok, if_pos h.shOk⟩
theorem lg12 {i : Int} (h : i.natAbs < 1000000000000) : i.natAbs.log2 < 1920 := by
  by_cases e : i.natAbs = 0
  · rw [e]; decide
  · rw [Nat.log2_lt e]
    exact Nat.lt_of_lt_of_le h (Nat.le_trans (show 1000000000000 ≤ 2 ^ 40 by decide) (Nat.pow_le_pow_right (by decide) (by decide)))

theorem at_neg {ns : List Int} {i : Int} (h0 : i < 0) (h1 : -(ns.length : Int) ≤ i) : ∃ x, atI (ns.map PD.int) i = some (.int x) := by
  have hl : (ns.length + i).toNat < ns.length := by omega
  refine ⟨ns[(ns.length + i).toNat], ?_⟩
  unfold atI ixN
  rw [List.length_map]
  rw [if_neg (by omega), if_pos (by omega)]
  simp
  rw [show i + (ns.length : Int) = ns.length + i by omega]
  exact List.getElem?_eq_getElem hl
theorem tup_eq (ns : List Int) : tupI ns = .tup (ns.map PD.int) := rfl
structure RwB (ms rs : List Int) : Prop where
  ok : RwOk ms rs
  bm : ∀ x ∈ ms, x.natAbs < 4000000
  br : ∀ x ∈ rs, x.natAbs < 4000000
theorem loop_row {ms rs : List Int} (h : RwOk ms rs) (p : Int) (hp : p = rs.length) (o0 o1 : PD) :
    ∃ ms', runW (evB g_law_row (.bor (.and (.b .gt (.u .len (.var 4)) (.var 2)) (.b .eq (.b .idx (.var 4) (.u .neg (.lit (.int 1)))) (.b .add (.b .idx (.var 4) (.b .sub (.u .neg (.lit (.int 1))) (.var 2))) (.b .idx (.var 3) (.b .mod (.b .sub (.u .len (.var 4)) (.lit (.int 1))) (.var 2)))))))) (FS.run g_law_row w_law_row_0) (fuel_law_row_0 [some (.v o0), some (.v o1), some (.v (.int p)), some (.v (.lst (rs.map PD.int))), some (.l (ms.map PD.int)), none]) [some (.v o0), some (.v o1), some (.v (.int p)), some (.v (.lst (rs.map PD.int))), some (.l (ms.map PD.int)), none] = .nx [some (.v o0), some (.v o1), some (.v (.int p)), some (.v (.lst (rs.map PD.int))), some (.l (ms'.map PD.int)), none] ∧ RwOk ms' rs ∧ ms'.length ≤ ms.length ∧ ∀ x ∈ ms', x ∈ ms := by
  have hp1 := h.p1
  have hp2 := h.p2
  have pn : ¬ (p = 0) := by omega
  have H : ∃ ρ', runW (evB g_law_row (.bor (.and (.b .gt (.u .len (.var 4)) (.var 2)) (.b .eq (.b .idx (.var 4) (.u .neg (.lit (.int 1)))) (.b .add (.b .idx (.var 4) (.b .sub (.u .neg (.lit (.int 1))) (.var 2))) (.b .idx (.var 3) (.b .mod (.b .sub (.u .len (.var 4)) (.lit (.int 1))) (.var 2)))))))) (FS.run g_law_row w_law_row_0) (fuel_law_row_0 [some (.v o0), some (.v o1), some (.v (.int p)), some (.v (.lst (rs.map PD.int))), some (.l (ms.map PD.int)), none]) [some (.v o0), some (.v o1), some (.v (.int p)), some (.v (.lst (rs.map PD.int))), some (.l (ms.map PD.int)), none] = .nx ρ' ∧ ∃ ms', ρ' = [some (.v o0), some (.v o1), some (.v (.int p)), some (.v (.lst (rs.map PD.int))), some (.l (ms'.map PD.int)), none] ∧ RwOk ms' rs ∧ ms'.length ≤ ms.length ∧ ∀ x ∈ ms', x ∈ ms := by
    refine runW_nx (fun n ρ => ∃ ms', ρ = [some (.v o0), some (.v o1), some (.v (.int p)), some (.v (.lst (rs.map PD.int))), some (.l (ms'.map PD.int)), none] ∧ (RwOk ms' rs ∧ ms'.length ≤ ms.length ∧ ∀ x ∈ ms', x ∈ ms) ∧ n = ms'.length) _ ?_ ⟨ms, rfl, ⟨h, Nat.le_refl _, fun _ hx => hx⟩, rfl⟩ ?_
    · rintro n ρ ⟨ks, rfl, ⟨hk, hkl, hkm⟩, rfl⟩
      have l1 := hk.l1
      have l2 := hk.l2
      have neg1 : (-(1 : Int)) = -1 := rfl
      by_cases c : p < ks.length
      · obtain ⟨x1, a1⟩ := at_neg (ns := ks) (i := -1) (by omega) (by omega)
        obtain ⟨x2, a2⟩ := at_neg (ns := ks) (i := -1 - p) (by omega) (by omega)
        obtain ⟨r0, r1⟩ := fmod_range (i := (ks.length : Int) - 1) (m := p) (by omega)
        obtain ⟨x3, _, _, a3⟩ := at_ints (ns := rs) r0 (by omega)
        by_cases d : x1 = x2 + x3
        · left
          refine ⟨?_, ks.length - 1, [some (.v o0), some (.v o1), some (.v (.int p)), some (.v (.lst (rs.map PD.int))), some (.l (ks.dropLast.map PD.int)), none], by omega, .inl ?_, ks.dropLast.length, by rw [List.length_dropLast]; exact Nat.le_refl _, ks.dropLast, rfl, ⟨⟨hk.p1, hk.p2, by rw [List.length_dropLast]; omega, by rw [List.length_dropLast]; omega⟩, by rw [List.length_dropLast]; omega, fun x hx => hkm x ((List.dropLast_sublist ks).subset hx)⟩, rfl⟩
          · simp only [asP_v, asP_l, asP_k, asB_ok, asI_ok, nox_ok, b_add, b_adds, b_addt, b_addl, b_sub, b_mul, b_fdiv, b_mod, b_pow, b_eq, b_ne, b_lt, b_le, b_gt, b_ge, b_is, b_isn, b_inn, b_nin, b_idxl, b_idxt, b_max, b_min, u_neg, u_lenl, u_lent, u_abs, u_int, u_intb, u_tupl, u_tupt, u_lstl, u_lstt, u_str, u_strs, u_all, u_any, u_sum, seq_l, seq_t, seq_s, sl_l, sl_t, sl_s, is_NoneType_int, is_NoneType_bool, is_NoneType_tuple, is_NoneType_list, is_NoneType_str, is_bool_int, is_bool_bool, is_bool_tuple, is_bool_list, is_bool_str, is_int_int, is_int_bool, is_int_tuple, is_int_list, is_int_str, is_str_int, is_str_bool, is_str_tuple, is_str_list, is_str_str, is_tuple_int, is_tuple_bool, is_tuple_tuple, is_tuple_list, is_tuple_str, is_list_int, is_list_bool, is_list_tuple, is_list_list, is_list_str, is_dict_int, is_dict_bool, is_dict_tuple, is_dict_list, is_dict_str, selE_t, selE_f, evB_at, evP_at, r_pass, r_set, r_own, r_frz, r_unp, r_par, r_app, r_popd, r_popa, r_swp, r_expr, r_ret, r_retm, r_retn, r_ifs, r_whl, r_fr, r_brk, r_cnt, r_raise, r_nil, e_var, e_lit, e_glo, e_u, e_b, e_isi, e_slc, e_rep, e_and, e_or, e_not, e_ite, e_chn, e_chn3, ch3_at, e_qcall, nox_ok, e_mth, e_mkx, mk_index, mk_join, mk_split, m_join, e_lrng, b_divm, e_tup, e_lst, e_call, e_comp, e_bor, e_d0, e_d1, e_pget, r_pput, u_max, u_min, e_oget, e_kin, e_kget, e_kgetd, e_klen, e_sset, e_sortk, r_kput, r_ins, r_ext, r_put, r_pop, e_rev, es_nil, es_cons, eo_no, eo_yes, ei_seq, ei_rng, ei_zip, ei_enm, szle0, szlt0, szle1, szlt1, szle2, szlt2, szle3, szlt3, szle4, szlt4, szle5, szlt5, szle6, szlt6, szle7, szlt7, szle8, szlt8, szle9, szlt9, szle10, szlt10, szle11, szlt11, szle12, szlt12, szle13, szlt13, szle14, szlt14, szle15, szlt15, szle16, szlt16, szle17, szlt17, szle18, szlt18, szle19, szlt19, szle20, szlt20, szle21, szlt21, szle22, szlt22, szle23, szlt23, szle24, szlt24, szle25, szlt25, szle26, szlt26, szle27, szlt27, szle28, szlt28, szle29, szlt29, szle30, szlt30, eqS_int, isS_bl, R.bind_ok, R.out_ok, Sl.pd_v, Sl.pd_l, Sl.pd_k, List.set_cons_zero, List.set_cons_succ, List.getElem?_cons_zero, List.getElem?_cons_succ, List.getElem?_nil, Option.getD_some, Option.getD_none, if_true, Bool.false_eq_true, if_false, bt_nm, bt_tup, bt_lst, bts_nil, bts_cons, wipeE, start0, List.length_cons, List.length_nil, List.replicate, List.cons_append, List.nil_append, List.map_cons, List.map_nil, Nat.reduceAdd, Nat.reduceSub, Nat.zero_add, Bool.not_true, Bool.not_false, decide_true, decide_false, cg_nil, cg_cons, bls_nil, bls_cons, tst_at, cst_at, ch2_at, isB_ok, isI_ok, PD.flat, ne_eq, not_false_eq_true, Int.reduceEq, Int.reduceToNat, Int.reducePow, Int.reduceLT, Int.reduceLE, Int.reduceMul, Int.reduceAdd, Int.reduceSub, pow9, pow16, pow18, pow57, pow60, r_seq, go_nx, go_ct, go_bk, go_rt, go_ex, sel_t, sel_f, res_rt, res_nx, res_ex, R.bind_ex, R.out_ex, r_raise, r_tryc, r_tryn, ca_ex, ca_nx, ca_rt, thaw, Option.map_some, Option.map_none, Sl.thaw, List.length_map, c, neg1, a1, a2, a3, pn, d, PD.flat]
          · have gl : (ks.map PD.int).getLast? = some (.int (ks.getLast (by intro e; rw [e] at c; simp at c; omega))) := by rw [List.getLast?_map, List.getLast?_eq_some_getLast]; rfl
            simp only [asP_v, asP_l, asP_k, asB_ok, asI_ok, nox_ok, b_add, b_adds, b_addt, b_addl, b_sub, b_mul, b_fdiv, b_mod, b_pow, b_eq, b_ne, b_lt, b_le, b_gt, b_ge, b_is, b_isn, b_inn, b_nin, b_idxl, b_idxt, b_max, b_min, u_neg, u_lenl, u_lent, u_abs, u_int, u_intb, u_tupl, u_tupt, u_lstl, u_lstt, u_str, u_strs, u_all, u_any, u_sum, seq_l, seq_t, seq_s, sl_l, sl_t, sl_s, is_NoneType_int, is_NoneType_bool, is_NoneType_tuple, is_NoneType_list, is_NoneType_str, is_bool_int, is_bool_bool, is_bool_tuple, is_bool_list, is_bool_str, is_int_int, is_int_bool, is_int_tuple, is_int_list, is_int_str, is_str_int, is_str_bool, is_str_tuple, is_str_list, is_str_str, is_tuple_int, is_tuple_bool, is_tuple_tuple, is_tuple_list, is_tuple_str, is_list_int, is_list_bool, is_list_tuple, is_list_list, is_list_str, is_dict_int, is_dict_bool, is_dict_tuple, is_dict_list, is_dict_str, selE_t, selE_f, evB_at, evP_at, r_pass, r_set, r_own, r_frz, r_unp, r_par, r_app, r_popd, r_popa, r_swp, r_expr, r_ret, r_retm, r_retn, r_ifs, r_whl, r_fr, r_brk, r_cnt, r_raise, r_nil, e_var, e_lit, e_glo, e_u, e_b, e_isi, e_slc, e_rep, e_and, e_or, e_not, e_ite, e_chn, e_chn3, ch3_at, e_qcall, nox_ok, e_mth, e_mkx, mk_index, mk_join, mk_split, m_join, e_lrng, b_divm, e_tup, e_lst, e_call, e_comp, e_bor, e_d0, e_d1, e_pget, r_pput, u_max, u_min, e_oget, e_kin, e_kget, e_kgetd, e_klen, e_sset, e_sortk, r_kput, r_ins, r_ext, r_put, r_pop, e_rev, es_nil, es_cons, eo_no, eo_yes, ei_seq, ei_rng, ei_zip, ei_enm, szle0, szlt0, szle1, szlt1, szle2, szlt2, szle3, szlt3, szle4, szlt4, szle5, szlt5, szle6, szlt6, szle7, szlt7, szle8, szlt8, szle9, szlt9, szle10, szlt10, szle11, szlt11, szle12, szlt12, szle13, szlt13, szle14, szlt14, szle15, szlt15, szle16, szlt16, szle17, szlt17, szle18, szlt18, szle19, szlt19, szle20, szlt20, szle21, szlt21, szle22, szlt22, szle23, szlt23, szle24, szlt24, szle25, szlt25, szle26, szlt26, szle27, szlt27, szle28, szlt28, szle29, szlt29, szle30, szlt30, eqS_int, isS_bl, R.bind_ok, R.out_ok, Sl.pd_v, Sl.pd_l, Sl.pd_k, List.set_cons_zero, List.set_cons_succ, List.getElem?_cons_zero, List.getElem?_cons_succ, List.getElem?_nil, Option.getD_some, Option.getD_none, if_true, Bool.false_eq_true, if_false, bt_nm, bt_tup, bt_lst, bts_nil, bts_cons, wipeE, start0, List.length_cons, List.length_nil, List.replicate, List.cons_append, List.nil_append, List.map_cons, List.map_nil, Nat.reduceAdd, Nat.reduceSub, Nat.zero_add, Bool.not_true, Bool.not_false, decide_true, decide_false, cg_nil, cg_cons, bls_nil, bls_cons, tst_at, cst_at, ch2_at, isB_ok, isI_ok, PD.flat, ne_eq, not_false_eq_true, Int.reduceEq, Int.reduceToNat, Int.reducePow, Int.reduceLT, Int.reduceLE, Int.reduceMul, Int.reduceAdd, Int.reduceSub, pow9, pow16, pow18, pow57, pow60, r_seq, go_nx, go_ct, go_bk, go_rt, go_ex, sel_t, sel_f, res_rt, res_nx, res_ex, R.bind_ex, R.out_ex, r_raise, r_tryc, r_tryn, ca_ex, ca_nx, ca_rt, w_law_row_0, gl, List.map_dropLast]
        · right
          exact ⟨by simp only [asP_v, asP_l, asP_k, asB_ok, asI_ok, nox_ok, b_add, b_adds, b_addt, b_addl, b_sub, b_mul, b_fdiv, b_mod, b_pow, b_eq, b_ne, b_lt, b_le, b_gt, b_ge, b_is, b_isn, b_inn, b_nin, b_idxl, b_idxt, b_max, b_min, u_neg, u_lenl, u_lent, u_abs, u_int, u_intb, u_tupl, u_tupt, u_lstl, u_lstt, u_str, u_strs, u_all, u_any, u_sum, seq_l, seq_t, seq_s, sl_l, sl_t, sl_s, is_NoneType_int, is_NoneType_bool, is_NoneType_tuple, is_NoneType_list, is_NoneType_str, is_bool_int, is_bool_bool, is_bool_tuple, is_bool_list, is_bool_str, is_int_int, is_int_bool, is_int_tuple, is_int_list, is_int_str, is_str_int, is_str_bool, is_str_tuple, is_str_list, is_str_str, is_tuple_int, is_tuple_bool, is_tuple_tuple, is_tuple_list, is_tuple_str, is_list_int, is_list_bool, is_list_tuple, is_list_list, is_list_str, is_dict_int, is_dict_bool, is_dict_tuple, is_dict_list, is_dict_str, selE_t, selE_f, evB_at, evP_at, r_pass, r_set, r_own, r_frz, r_unp, r_par, r_app, r_popd, r_popa, r_swp, r_expr, r_ret, r_retm, r_retn, r_ifs, r_whl, r_fr, r_brk, r_cnt, r_raise, r_nil, e_var, e_lit, e_glo, e_u, e_b, e_isi, e_slc, e_rep, e_and, e_or, e_not, e_ite, e_chn, e_chn3, ch3_at, e_qcall, nox_ok, e_mth, e_mkx, mk_index, mk_join, mk_split, m_join, e_lrng, b_divm, e_tup, e_lst, e_call, e_comp, e_bor, e_d0, e_d1, e_pget, r_pput, u_max, u_min, e_oget, e_kin, e_kget, e_kgetd, e_klen, e_sset, e_sortk, r_kput, r_ins, r_ext, r_put, r_pop, e_rev, es_nil, es_cons, eo_no, eo_yes, ei_seq, ei_rng, ei_zip, ei_enm, szle0, szlt0, szle1, szlt1, szle2, szlt2, szle3, szlt3, szle4, szlt4, szle5, szlt5, szle6, szlt6, szle7, szlt7, szle8, szlt8, szle9, szlt9, szle10, szlt10, szle11, szlt11, szle12, szlt12, szle13, szlt13, szle14, szlt14, szle15, szlt15, szle16, szlt16, szle17, szlt17, szle18, szlt18, szle19, szlt19, szle20, szlt20, szle21, szlt21, szle22, szlt22, szle23, szlt23, szle24, szlt24, szle25, szlt25, szle26, szlt26, szle27, szlt27, szle28, szlt28, szle29, szlt29, szle30, szlt30, eqS_int, isS_bl, R.bind_ok, R.out_ok, Sl.pd_v, Sl.pd_l, Sl.pd_k, List.set_cons_zero, List.set_cons_succ, List.getElem?_cons_zero, List.getElem?_cons_succ, List.getElem?_nil, Option.getD_some, Option.getD_none, if_true, Bool.false_eq_true, if_false, bt_nm, bt_tup, bt_lst, bts_nil, bts_cons, wipeE, start0, List.length_cons, List.length_nil, List.replicate, List.cons_append, List.nil_append, List.map_cons, List.map_nil, Nat.reduceAdd, Nat.reduceSub, Nat.zero_add, Bool.not_true, Bool.not_false, decide_true, decide_false, cg_nil, cg_cons, bls_nil, bls_cons, tst_at, cst_at, ch2_at, isB_ok, isI_ok, PD.flat, ne_eq, not_false_eq_true, Int.reduceEq, Int.reduceToNat, Int.reducePow, Int.reduceLT, Int.reduceLE, Int.reduceMul, Int.reduceAdd, Int.reduceSub, pow9, pow16, pow18, pow57, pow60, r_seq, go_nx, go_ct, go_bk, go_rt, go_ex, sel_t, sel_f, res_rt, res_nx, res_ex, R.bind_ex, R.out_ex, r_raise, r_tryc, r_tryn, ca_ex, ca_nx, ca_rt, thaw, Option.map_some, Option.map_none, Sl.thaw, List.length_map, c, neg1, a1, a2, a3, pn, d, PD.flat], ks, rfl, hk, hkl, hkm⟩
      · right
        exact ⟨by simp only [asP_v, asP_l, asP_k, asB_ok, asI_ok, nox_ok, b_add, b_adds, b_addt, b_addl, b_sub, b_mul, b_fdiv, b_mod, b_pow, b_eq, b_ne, b_lt, b_le, b_gt, b_ge, b_is, b_isn, b_inn, b_nin, b_idxl, b_idxt, b_max, b_min, u_neg, u_lenl, u_lent, u_abs, u_int, u_intb, u_tupl, u_tupt, u_lstl, u_lstt, u_str, u_strs, u_all, u_any, u_sum, seq_l, seq_t, seq_s, sl_l, sl_t, sl_s, is_NoneType_int, is_NoneType_bool, is_NoneType_tuple, is_NoneType_list, is_NoneType_str, is_bool_int, is_bool_bool, is_bool_tuple, is_bool_list, is_bool_str, is_int_int, is_int_bool, is_int_tuple, is_int_list, is_int_str, is_str_int, is_str_bool, is_str_tuple, is_str_list, is_str_str, is_tuple_int, is_tuple_bool, is_tuple_tuple, is_tuple_list, is_tuple_str, is_list_int, is_list_bool, is_list_tuple, is_list_list, is_list_str, is_dict_int, is_dict_bool, is_dict_tuple, is_dict_list, is_dict_str, selE_t, selE_f, evB_at, evP_at, r_pass, r_set, r_own, r_frz, r_unp, r_par, r_app, r_popd, r_popa, r_swp, r_expr, r_ret, r_retm, r_retn, r_ifs, r_whl, r_fr, r_brk, r_cnt, r_raise, r_nil, e_var, e_lit, e_glo, e_u, e_b, e_isi, e_slc, e_rep, e_and, e_or, e_not, e_ite, e_chn, e_chn3, ch3_at, e_qcall, nox_ok, e_mth, e_mkx, mk_index, mk_join, mk_split, m_join, e_lrng, b_divm, e_tup, e_lst, e_call, e_comp, e_bor, e_d0, e_d1, e_pget, r_pput, u_max, u_min, e_oget, e_kin, e_kget, e_kgetd, e_klen, e_sset, e_sortk, r_kput, r_ins, r_ext, r_put, r_pop, e_rev, es_nil, es_cons, eo_no, eo_yes, ei_seq, ei_rng, ei_zip, ei_enm, szle0, szlt0, szle1, szlt1, szle2, szlt2, szle3, szlt3, szle4, szlt4, szle5, szlt5, szle6, szlt6, szle7, szlt7, szle8, szlt8, szle9, szlt9, szle10, szlt10, szle11, szlt11, szle12, szlt12, szle13, szlt13, szle14, szlt14, szle15, szlt15, szle16, szlt16, szle17, szlt17, szle18, szlt18, szle19, szlt19, szle20, szlt20, szle21, szlt21, szle22, szlt22, szle23, szlt23, szle24, szlt24, szle25, szlt25, szle26, szlt26, szle27, szlt27, szle28, szlt28, szle29, szlt29, szle30, szlt30, eqS_int, isS_bl, R.bind_ok, R.out_ok, Sl.pd_v, Sl.pd_l, Sl.pd_k, List.set_cons_zero, List.set_cons_succ, List.getElem?_cons_zero, List.getElem?_cons_succ, List.getElem?_nil, Option.getD_some, Option.getD_none, if_true, Bool.false_eq_true, if_false, bt_nm, bt_tup, bt_lst, bts_nil, bts_cons, wipeE, start0, List.length_cons, List.length_nil, List.replicate, List.cons_append, List.nil_append, List.map_cons, List.map_nil, Nat.reduceAdd, Nat.reduceSub, Nat.zero_add, Bool.not_true, Bool.not_false, decide_true, decide_false, cg_nil, cg_cons, bls_nil, bls_cons, tst_at, cst_at, ch2_at, isB_ok, isI_ok, PD.flat, ne_eq, not_false_eq_true, Int.reduceEq, Int.reduceToNat, Int.reducePow, Int.reduceLT, Int.reduceLE, Int.reduceMul, Int.reduceAdd, Int.reduceSub, pow9, pow16, pow18, pow57, pow60, r_seq, go_nx, go_ct, go_bk, go_rt, go_ex, sel_t, sel_f, res_rt, res_nx, res_ex, R.bind_ex, R.out_ex, r_raise, r_tryc, r_tryn, ca_ex, ca_nx, ca_rt, thaw, Option.map_some, Option.map_none, Sl.thaw, List.length_map, c, PD.flat], ks, rfl, hk, hkl, hkm⟩
    · simp only [fuel_law_row_0, slotL, asP_v, asP_l, asP_k, asB_ok, asI_ok, nox_ok, b_add, b_adds, b_addt, b_addl, b_sub, b_mul, b_fdiv, b_mod, b_pow, b_eq, b_ne, b_lt, b_le, b_gt, b_ge, b_is, b_isn, b_inn, b_nin, b_idxl, b_idxt, b_max, b_min, u_neg, u_lenl, u_lent, u_abs, u_int, u_intb, u_tupl, u_tupt, u_lstl, u_lstt, u_str, u_strs, u_all, u_any, u_sum, seq_l, seq_t, seq_s, sl_l, sl_t, sl_s, is_NoneType_int, is_NoneType_bool, is_NoneType_tuple, is_NoneType_list, is_NoneType_str, is_bool_int, is_bool_bool, is_bool_tuple, is_bool_list, is_bool_str, is_int_int, is_int_bool, is_int_tuple, is_int_list, is_int_str, is_str_int, is_str_bool, is_str_tuple, is_str_list, is_str_str, is_tuple_int, is_tuple_bool, is_tuple_tuple, is_tuple_list, is_tuple_str, is_list_int, is_list_bool, is_list_tuple, is_list_list, is_list_str, is_dict_int, is_dict_bool, is_dict_tuple, is_dict_list, is_dict_str, selE_t, selE_f, evB_at, evP_at, r_pass, r_set, r_own, r_frz, r_unp, r_par, r_app, r_popd, r_popa, r_swp, r_expr, r_ret, r_retm, r_retn, r_ifs, r_whl, r_fr, r_brk, r_cnt, r_raise, r_nil, e_var, e_lit, e_glo, e_u, e_b, e_isi, e_slc, e_rep, e_and, e_or, e_not, e_ite, e_chn, e_chn3, ch3_at, e_qcall, nox_ok, e_mth, e_mkx, mk_index, mk_join, mk_split, m_join, e_lrng, b_divm, e_tup, e_lst, e_call, e_comp, e_bor, e_d0, e_d1, e_pget, r_pput, u_max, u_min, e_oget, e_kin, e_kget, e_kgetd, e_klen, e_sset, e_sortk, r_kput, r_ins, r_ext, r_put, r_pop, e_rev, es_nil, es_cons, eo_no, eo_yes, ei_seq, ei_rng, ei_zip, ei_enm, szle0, szlt0, szle1, szlt1, szle2, szlt2, szle3, szlt3, szle4, szlt4, szle5, szlt5, szle6, szlt6, szle7, szlt7, szle8, szlt8, szle9, szlt9, szle10, szlt10, szle11, szlt11, szle12, szlt12, szle13, szlt13, szle14, szlt14, szle15, szlt15, szle16, szlt16, szle17, szlt17, szle18, szlt18, szle19, szlt19, szle20, szlt20, szle21, szlt21, szle22, szlt22, szle23, szlt23, szle24, szlt24, szle25, szlt25, szle26, szlt26, szle27, szlt27, szle28, szlt28, szle29, szlt29, szle30, szlt30, eqS_int, isS_bl, R.bind_ok, R.out_ok, Sl.pd_v, Sl.pd_l, Sl.pd_k, List.set_cons_zero, List.set_cons_succ, List.getElem?_cons_zero, List.getElem?_cons_succ, List.getElem?_nil, Option.getD_some, Option.getD_none, if_true, Bool.false_eq_true, if_false, bt_nm, bt_tup, bt_lst, bts_nil, bts_cons, wipeE, start0, List.length_cons, List.length_nil, List.replicate, List.cons_append, List.nil_append, List.map_cons, List.map_nil, Nat.reduceAdd, Nat.reduceSub, Nat.zero_add, Bool.not_true, Bool.not_false, decide_true, decide_false, cg_nil, cg_cons, bls_nil, bls_cons, tst_at, cst_at, ch2_at, isB_ok, isI_ok, PD.flat, ne_eq, not_false_eq_true, Int.reduceEq, Int.reduceToNat, Int.reducePow, Int.reduceLT, Int.reduceLE, Int.reduceMul, Int.reduceAdd, Int.reduceSub, pow9, pow16, pow18, pow57, pow60, r_seq, go_nx, go_ct, go_bk, go_rt, go_ex, sel_t, sel_f, res_rt, res_nx, res_ex, R.bind_ex, R.out_ex, r_raise, r_tryc, r_tryn, ca_ex, ca_nx, ca_rt, List.length_map]; omega
  obtain ⟨ρ', e, ms', rfl, h', hl⟩ := H
  exact ⟨ms', e, h', hl⟩
theorem row_all (P : Sl → Prop) (hP : ∀ ms rs, RwB ms rs → P (.v (Row ms rs))) : (d_law_row [.pot, .int 6]).All P := by
  have p6 := pw_ok 6 (by decide)
  have m2 : mulOk 2 6 := by decide
  rw [q_law_row]
  refine den_all rfl ?_
  simp only [asP_v, asP_l, asP_k, asB_ok, asI_ok, nox_ok, b_add, b_adds, b_addt, b_addl, b_sub, b_mul, b_fdiv, b_mod, b_pow, b_eq, b_ne, b_lt, b_le, b_gt, b_ge, b_is, b_isn, b_inn, b_nin, b_idxl, b_idxt, b_max, b_min, u_neg, u_lenl, u_lent, u_abs, u_int, u_intb, u_tupl, u_tupt, u_lstl, u_lstt, u_str, u_strs, u_all, u_any, u_sum, seq_l, seq_t, seq_s, sl_l, sl_t, sl_s, is_NoneType_int, is_NoneType_bool, is_NoneType_tuple, is_NoneType_list, is_NoneType_str, is_bool_int, is_bool_bool, is_bool_tuple, is_bool_list, is_bool_str, is_int_int, is_int_bool, is_int_tuple, is_int_list, is_int_str, is_str_int, is_str_bool, is_str_tuple, is_str_list, is_str_str, is_tuple_int, is_tuple_bool, is_tuple_tuple, is_tuple_list, is_tuple_str, is_list_int, is_list_bool, is_list_tuple, is_list_list, is_list_str, is_dict_int, is_dict_bool, is_dict_tuple, is_dict_list, is_dict_str, R.all_ok, selE_t, selE_f, evB_at, evP_at, r_pass, r_set, r_own, r_frz, r_unp, r_par, r_app, r_popd, r_popa, r_swp, r_expr, r_ret, r_retm, r_retn, r_ifs, r_whl, r_fr, r_brk, r_cnt, r_raise, r_nil, e_var, e_lit, e_glo, e_u, e_b, e_isi, e_slc, e_rep, e_and, e_or, e_not, e_ite, e_chn, e_chn3, ch3_at, e_qcall, nox_ok, e_mth, e_mkx, mk_index, mk_join, mk_split, m_join, e_lrng, b_divm, e_tup, e_lst, e_call, e_comp, e_bor, e_d0, e_d1, e_pget, r_pput, u_max, u_min, e_oget, e_kin, e_kget, e_kgetd, e_klen, e_sset, e_sortk, r_kput, r_ins, r_ext, r_put, r_pop, e_rev, R.all_ask, es_nil, es_cons, eo_no, eo_yes, ei_seq, ei_rng, ei_zip, ei_enm, szle0, szlt0, szle1, szlt1, szle2, szlt2, szle3, szlt3, szle4, szlt4, szle5, szlt5, szle6, szlt6, szle7, szlt7, szle8, szlt8, szle9, szlt9, szle10, szlt10, szle11, szlt11, szle12, szlt12, szle13, szlt13, szle14, szlt14, szle15, szlt15, szle16, szlt16, szle17, szlt17, szle18, szlt18, szle19, szlt19, szle20, szlt20, szle21, szlt21, szle22, szlt22, szle23, szlt23, szle24, szlt24, szle25, szlt25, szle26, szlt26, szle27, szlt27, szle28, szlt28, szle29, szlt29, szle30, szlt30, Out.wp_nx, Out.wp_rt, Out.wp_bk, Out.wp_ct, eqS_int, isS_bl, R.bind_ok, R.out_ok, Sl.pd_v, Sl.pd_l, Sl.pd_k, List.set_cons_zero, List.set_cons_succ, List.getElem?_cons_zero, List.getElem?_cons_succ, List.getElem?_nil, Option.getD_some, Option.getD_none, if_true, Bool.false_eq_true, if_false, bt_nm, bt_tup, bt_lst, bts_nil, bts_cons, wipeE, start0, List.length_cons, List.length_nil, List.replicate, List.cons_append, List.nil_append, List.map_cons, List.map_nil, Nat.reduceAdd, Nat.reduceSub, Nat.zero_add, Bool.not_true, Bool.not_false, decide_true, decide_false, cg_nil, cg_cons, bls_nil, bls_cons, tst_at, cst_at, ch2_at, w_seq, w_sel, rest_nil, Out.wp_out, isB_ok, isI_ok, PD.flat, ne_eq, not_false_eq_true, Int.reduceEq, Int.reduceToNat, Int.reducePow, Int.reduceLT, Int.reduceLE, Int.reduceMul, Int.reduceAdd, Int.reduceSub, pow9, pow16, pow18, pow57, pow60, R.all_bind, R.all_nox, all_asP, all_asB, all_asI, b_law_row, gf_law_row_0]
  refine take_all _ (by decide) (by decide) _ fun a a0 a1 => ?_
  simp only [asP_v, asP_l, asP_k, asB_ok, asI_ok, nox_ok, b_add, b_adds, b_addt, b_addl, b_sub, b_mul, b_fdiv, b_mod, b_pow, b_eq, b_ne, b_lt, b_le, b_gt, b_ge, b_is, b_isn, b_inn, b_nin, b_idxl, b_idxt, b_max, b_min, u_neg, u_lenl, u_lent, u_abs, u_int, u_intb, u_tupl, u_tupt, u_lstl, u_lstt, u_str, u_strs, u_all, u_any, u_sum, seq_l, seq_t, seq_s, sl_l, sl_t, sl_s, is_NoneType_int, is_NoneType_bool, is_NoneType_tuple, is_NoneType_list, is_NoneType_str, is_bool_int, is_bool_bool, is_bool_tuple, is_bool_list, is_bool_str, is_int_int, is_int_bool, is_int_tuple, is_int_list, is_int_str, is_str_int, is_str_bool, is_str_tuple, is_str_list, is_str_str, is_tuple_int, is_tuple_bool, is_tuple_tuple, is_tuple_list, is_tuple_str, is_list_int, is_list_bool, is_list_tuple, is_list_list, is_list_str, is_dict_int, is_dict_bool, is_dict_tuple, is_dict_list, is_dict_str, R.all_ok, selE_t, selE_f, evB_at, evP_at, r_pass, r_set, r_own, r_frz, r_unp, r_par, r_app, r_popd, r_popa, r_swp, r_expr, r_ret, r_retm, r_retn, r_ifs, r_whl, r_fr, r_brk, r_cnt, r_raise, r_nil, e_var, e_lit, e_glo, e_u, e_b, e_isi, e_slc, e_rep, e_and, e_or, e_not, e_ite, e_chn, e_chn3, ch3_at, e_qcall, nox_ok, e_mth, e_mkx, mk_index, mk_join, mk_split, m_join, e_lrng, b_divm, e_tup, e_lst, e_call, e_comp, e_bor, e_d0, e_d1, e_pget, r_pput, u_max, u_min, e_oget, e_kin, e_kget, e_kgetd, e_klen, e_sset, e_sortk, r_kput, r_ins, r_ext, r_put, r_pop, e_rev, R.all_ask, es_nil, es_cons, eo_no, eo_yes, ei_seq, ei_rng, ei_zip, ei_enm, szle0, szlt0, szle1, szlt1, szle2, szlt2, szle3, szlt3, szle4, szlt4, szle5, szlt5, szle6, szlt6, szle7, szlt7, szle8, szlt8, szle9, szlt9, szle10, szlt10, szle11, szlt11, szle12, szlt12, szle13, szlt13, szle14, szlt14, szle15, szlt15, szle16, szlt16, szle17, szlt17, szle18, szlt18, szle19, szlt19, szle20, szlt20, szle21, szlt21, szle22, szlt22, szle23, szlt23, szle24, szlt24, szle25, szlt25, szle26, szlt26, szle27, szlt27, szle28, szlt28, szle29, szlt29, szle30, szlt30, Out.wp_nx, Out.wp_rt, Out.wp_bk, Out.wp_ct, eqS_int, isS_bl, R.bind_ok, R.out_ok, Sl.pd_v, Sl.pd_l, Sl.pd_k, List.set_cons_zero, List.set_cons_succ, List.getElem?_cons_zero, List.getElem?_cons_succ, List.getElem?_nil, Option.getD_some, Option.getD_none, if_true, Bool.false_eq_true, if_false, bt_nm, bt_tup, bt_lst, bts_nil, bts_cons, wipeE, start0, List.length_cons, List.length_nil, List.replicate, List.cons_append, List.nil_append, List.map_cons, List.map_nil, Nat.reduceAdd, Nat.reduceSub, Nat.zero_add, Bool.not_true, Bool.not_false, decide_true, decide_false, cg_nil, cg_cons, bls_nil, bls_cons, tst_at, cst_at, ch2_at, w_seq, w_sel, rest_nil, Out.wp_out, isB_ok, isI_ok, PD.flat, ne_eq, not_false_eq_true, Int.reduceEq, Int.reduceToNat, Int.reducePow, Int.reduceLT, Int.reduceLE, Int.reduceMul, Int.reduceAdd, Int.reduceSub, pow9, pow16, pow18, pow57, pow60]
  generalize hp : (1 : Int) + a = p
  have p1 : 1 ≤ p := by omega
  have p6' : p ≤ 6 := by omega
  (refine Rest.mk ?_; simp only [asP_v, asP_l, asP_k, asB_ok, asI_ok, nox_ok, b_add, b_adds, b_addt, b_addl, b_sub, b_mul, b_fdiv, b_mod, b_pow, b_eq, b_ne, b_lt, b_le, b_gt, b_ge, b_is, b_isn, b_inn, b_nin, b_idxl, b_idxt, b_max, b_min, u_neg, u_lenl, u_lent, u_abs, u_int, u_intb, u_tupl, u_tupt, u_lstl, u_lstt, u_str, u_strs, u_all, u_any, u_sum, seq_l, seq_t, seq_s, sl_l, sl_t, sl_s, is_NoneType_int, is_NoneType_bool, is_NoneType_tuple, is_NoneType_list, is_NoneType_str, is_bool_int, is_bool_bool, is_bool_tuple, is_bool_list, is_bool_str, is_int_int, is_int_bool, is_int_tuple, is_int_list, is_int_str, is_str_int, is_str_bool, is_str_tuple, is_str_list, is_str_str, is_tuple_int, is_tuple_bool, is_tuple_tuple, is_tuple_list, is_tuple_str, is_list_int, is_list_bool, is_list_tuple, is_list_list, is_list_str, is_dict_int, is_dict_bool, is_dict_tuple, is_dict_list, is_dict_str, R.all_ok, selE_t, selE_f, evB_at, evP_at, r_pass, r_set, r_own, r_frz, r_unp, r_par, r_app, r_popd, r_popa, r_swp, r_expr, r_ret, r_retm, r_retn, r_ifs, r_whl, r_fr, r_brk, r_cnt, r_raise, r_nil, e_var, e_lit, e_glo, e_u, e_b, e_isi, e_slc, e_rep, e_and, e_or, e_not, e_ite, e_chn, e_chn3, ch3_at, e_qcall, nox_ok, e_mth, e_mkx, mk_index, mk_join, mk_split, m_join, e_lrng, b_divm, e_tup, e_lst, e_call, e_comp, e_bor, e_d0, e_d1, e_pget, r_pput, u_max, u_min, e_oget, e_kin, e_kget, e_kgetd, e_klen, e_sset, e_sortk, r_kput, r_ins, r_ext, r_put, r_pop, e_rev, R.all_ask, es_nil, es_cons, eo_no, eo_yes, ei_seq, ei_rng, ei_zip, ei_enm, szle0, szlt0, szle1, szlt1, szle2, szlt2, szle3, szlt3, szle4, szlt4, szle5, szlt5, szle6, szlt6, szle7, szlt7, szle8, szlt8, szle9, szlt9, szle10, szlt10, szle11, szlt11, szle12, szlt12, szle13, szlt13, szle14, szlt14, szle15, szlt15, szle16, szlt16, szle17, szlt17, szle18, szlt18, szle19, szlt19, szle20, szlt20, szle21, szlt21, szle22, szlt22, szle23, szlt23, szle24, szlt24, szle25, szlt25, szle26, szlt26, szle27, szlt27, szle28, szlt28, szle29, szlt29, szle30, szlt30, Out.wp_nx, Out.wp_rt, Out.wp_bk, Out.wp_ct, eqS_int, isS_bl, R.bind_ok, R.out_ok, Sl.pd_v, Sl.pd_l, Sl.pd_k, List.set_cons_zero, List.set_cons_succ, List.getElem?_cons_zero, List.getElem?_cons_succ, List.getElem?_nil, Option.getD_some, Option.getD_none, if_true, Bool.false_eq_true, if_false, bt_nm, bt_tup, bt_lst, bts_nil, bts_cons, wipeE, start0, List.length_cons, List.length_nil, List.replicate, List.cons_append, List.nil_append, List.map_cons, List.map_nil, Nat.reduceAdd, Nat.reduceSub, Nat.zero_add, Bool.not_true, Bool.not_false, decide_true, decide_false, cg_nil, cg_cons, bls_nil, bls_cons, tst_at, cst_at, ch2_at, w_seq, w_sel, rest_nil, Out.wp_out, isB_ok, isI_ok, PD.flat, ne_eq, not_false_eq_true, Int.reduceEq, Int.reduceToNat, Int.reducePow, Int.reduceLT, Int.reduceLE, Int.reduceMul, Int.reduceAdd, Int.reduceSub, pow9, pow16, pow18, pow57, pow60, R.all_bind, R.all_nox, all_asP, all_asB, all_asI])
  unfold x_law_row_0
  refine ev_map_all (fun (i : Nat) => PD.int i) PD.int (fun _ y => y.natAbs < 2000000) (List.range p.toNat) (by simp only [asP_v, asP_l, asP_k, asB_ok, asI_ok, nox_ok, b_add, b_adds, b_addt, b_addl, b_sub, b_mul, b_fdiv, b_mod, b_pow, b_eq, b_ne, b_lt, b_le, b_gt, b_ge, b_is, b_isn, b_inn, b_nin, b_idxl, b_idxt, b_max, b_min, u_neg, u_lenl, u_lent, u_abs, u_int, u_intb, u_tupl, u_tupt, u_lstl, u_lstt, u_str, u_strs, u_all, u_any, u_sum, seq_l, seq_t, seq_s, sl_l, sl_t, sl_s, is_NoneType_int, is_NoneType_bool, is_NoneType_tuple, is_NoneType_list, is_NoneType_str, is_bool_int, is_bool_bool, is_bool_tuple, is_bool_list, is_bool_str, is_int_int, is_int_bool, is_int_tuple, is_int_list, is_int_str, is_str_int, is_str_bool, is_str_tuple, is_str_list, is_str_str, is_tuple_int, is_tuple_bool, is_tuple_tuple, is_tuple_list, is_tuple_str, is_list_int, is_list_bool, is_list_tuple, is_list_list, is_list_str, is_dict_int, is_dict_bool, is_dict_tuple, is_dict_list, is_dict_str, selE_t, selE_f, evB_at, evP_at, r_pass, r_set, r_own, r_frz, r_unp, r_par, r_app, r_popd, r_popa, r_swp, r_expr, r_ret, r_retm, r_retn, r_ifs, r_whl, r_fr, r_brk, r_cnt, r_raise, r_nil, e_var, e_lit, e_glo, e_u, e_b, e_isi, e_slc, e_rep, e_and, e_or, e_not, e_ite, e_chn, e_chn3, ch3_at, e_qcall, nox_ok, e_mth, e_mkx, mk_index, mk_join, mk_split, m_join, e_lrng, b_divm, e_tup, e_lst, e_call, e_comp, e_bor, e_d0, e_d1, e_pget, r_pput, u_max, u_min, e_oget, e_kin, e_kget, e_kgetd, e_klen, e_sset, e_sortk, r_kput, r_ins, r_ext, r_put, r_pop, e_rev, es_nil, es_cons, eo_no, eo_yes, ei_seq, ei_rng, ei_zip, ei_enm, szle0, szlt0, szle1, szlt1, szle2, szlt2, szle3, szlt3, szle4, szlt4, szle5, szlt5, szle6, szlt6, szle7, szlt7, szle8, szlt8, szle9, szlt9, szle10, szlt10, szle11, szlt11, szle12, szlt12, szle13, szlt13, szle14, szlt14, szle15, szlt15, szle16, szlt16, szle17, szlt17, szle18, szlt18, szle19, szlt19, szle20, szlt20, szle21, szlt21, szle22, szlt22, szle23, szlt23, szle24, szlt24, szle25, szlt25, szle26, szlt26, szle27, szlt27, szle28, szlt28, szle29, szlt29, szle30, szlt30, eqS_int, isS_bl, R.bind_ok, R.out_ok, Sl.pd_v, Sl.pd_l, Sl.pd_k, List.set_cons_zero, List.set_cons_succ, List.getElem?_cons_zero, List.getElem?_cons_succ, List.getElem?_nil, Option.getD_some, Option.getD_none, if_true, Bool.false_eq_true, if_false, bt_nm, bt_tup, bt_lst, bts_nil, bts_cons, wipeE, start0, List.length_cons, List.length_nil, List.replicate, List.cons_append, List.nil_append, List.map_cons, List.map_nil, Nat.reduceAdd, Nat.reduceSub, Nat.zero_add, Bool.not_true, Bool.not_false, decide_true, decide_false, cg_nil, cg_cons, bls_nil, bls_cons, tst_at, cst_at, ch2_at, isB_ok, isI_ok, PD.flat, ne_eq, not_false_eq_true, Int.reduceEq, Int.reduceToNat, Int.reducePow, Int.reduceLT, Int.reduceLE, Int.reduceMul, Int.reduceAdd, Int.reduceSub, pow9, pow16, pow18, pow57, pow60, r_seq, go_nx, go_ct, go_bk, go_rt, go_ex, sel_t, sel_f, res_rt, res_nx, res_ex, R.bind_ex, R.out_ex, r_raise, r_tryc, r_tryn, ca_ex, ca_nx, ca_rt, rng_up (smallI_of (show 0 ≤ p by omega) (show p < 2 ^ 62 by omega)), rng_nat]) (by rw [List.length_range, sizeLine_eq]; omega) (fun x _ => ⟨_, (by simp only [asP_v, asP_l, asP_k, asB_ok, asI_ok, nox_ok, b_add, b_adds, b_addt, b_addl, b_sub, b_mul, b_fdiv, b_mod, b_pow, b_eq, b_ne, b_lt, b_le, b_gt, b_ge, b_is, b_isn, b_inn, b_nin, b_idxl, b_idxt, b_max, b_min, u_neg, u_lenl, u_lent, u_abs, u_int, u_intb, u_tupl, u_tupt, u_lstl, u_lstt, u_str, u_strs, u_all, u_any, u_sum, seq_l, seq_t, seq_s, sl_l, sl_t, sl_s, is_NoneType_int, is_NoneType_bool, is_NoneType_tuple, is_NoneType_list, is_NoneType_str, is_bool_int, is_bool_bool, is_bool_tuple, is_bool_list, is_bool_str, is_int_int, is_int_bool, is_int_tuple, is_int_list, is_int_str, is_str_int, is_str_bool, is_str_tuple, is_str_list, is_str_str, is_tuple_int, is_tuple_bool, is_tuple_tuple, is_tuple_list, is_tuple_str, is_list_int, is_list_bool, is_list_tuple, is_list_list, is_list_str, is_dict_int, is_dict_bool, is_dict_tuple, is_dict_list, is_dict_str, selE_t, selE_f, evB_at, evP_at, r_pass, r_set, r_own, r_frz, r_unp, r_par, r_app, r_popd, r_popa, r_swp, r_expr, r_ret, r_retm, r_retn, r_ifs, r_whl, r_fr, r_brk, r_cnt, r_raise, r_nil, e_var, e_lit, e_glo, e_u, e_b, e_isi, e_slc, e_rep, e_and, e_or, e_not, e_ite, e_chn, e_chn3, ch3_at, e_qcall, nox_ok, e_mth, e_mkx, mk_index, mk_join, mk_split, m_join, e_lrng, b_divm, e_tup, e_lst, e_call, e_comp, e_bor, e_d0, e_d1, e_pget, r_pput, u_max, u_min, e_oget, e_kin, e_kget, e_kgetd, e_klen, e_sset, e_sortk, r_kput, r_ins, r_ext, r_put, r_pop, e_rev, es_nil, es_cons, eo_no, eo_yes, ei_seq, ei_rng, ei_zip, ei_enm, szle0, szlt0, szle1, szlt1, szle2, szlt2, szle3, szlt3, szle4, szlt4, szle5, szlt5, szle6, szlt6, szle7, szlt7, szle8, szlt8, szle9, szlt9, szle10, szlt10, szle11, szlt11, szle12, szlt12, szle13, szlt13, szle14, szlt14, szle15, szlt15, szle16, szlt16, szle17, szlt17, szle18, szlt18, szle19, szlt19, szle20, szlt20, szle21, szlt21, szle22, szlt22, szle23, szlt23, szle24, szlt24, szle25, szlt25, szle26, szlt26, szle27, szlt27, szle28, szlt28, szle29, szlt29, szle30, szlt30, eqS_int, isS_bl, R.bind_ok, R.out_ok, Sl.pd_v, Sl.pd_l, Sl.pd_k, List.set_cons_zero, List.set_cons_succ, List.getElem?_cons_zero, List.getElem?_cons_succ, List.getElem?_nil, Option.getD_some, Option.getD_none, if_true, Bool.false_eq_true, if_false, bt_nm, bt_tup, bt_lst, bts_nil, bts_cons, wipeE, start0, List.length_cons, List.length_nil, List.replicate, List.cons_append, List.nil_append, List.map_cons, List.map_nil, Nat.reduceAdd, Nat.reduceSub, Nat.zero_add, Bool.not_true, Bool.not_false, decide_true, decide_false, cg_nil, cg_cons, bls_nil, bls_cons, tst_at, cst_at, ch2_at, isB_ok, isI_ok, PD.flat, ne_eq, not_false_eq_true, Int.reduceEq, Int.reduceToNat, Int.reducePow, Int.reduceLT, Int.reduceLE, Int.reduceMul, Int.reduceAdd, Int.reduceSub, pow9, pow16, pow18, pow57, pow60, r_seq, go_nx, go_ct, go_bk, go_rt, go_ex, sel_t, sel_f, res_rt, res_nx, res_ex, R.bind_ex, R.out_ex, r_raise, r_tryc, r_tryn, ca_ex, ca_nx, ca_rt]; first | done | rfl), ?_⟩) _ fun rs l2 q2 => ?_
  · simp only [asP_v, asP_l, asP_k, asB_ok, asI_ok, nox_ok, b_add, b_adds, b_addt, b_addl, b_sub, b_mul, b_fdiv, b_mod, b_pow, b_eq, b_ne, b_lt, b_le, b_gt, b_ge, b_is, b_isn, b_inn, b_nin, b_idxl, b_idxt, b_max, b_min, u_neg, u_lenl, u_lent, u_abs, u_int, u_intb, u_tupl, u_tupt, u_lstl, u_lstt, u_str, u_strs, u_all, u_any, u_sum, seq_l, seq_t, seq_s, sl_l, sl_t, sl_s, is_NoneType_int, is_NoneType_bool, is_NoneType_tuple, is_NoneType_list, is_NoneType_str, is_bool_int, is_bool_bool, is_bool_tuple, is_bool_list, is_bool_str, is_int_int, is_int_bool, is_int_tuple, is_int_list, is_int_str, is_str_int, is_str_bool, is_str_tuple, is_str_list, is_str_str, is_tuple_int, is_tuple_bool, is_tuple_tuple, is_tuple_list, is_tuple_str, is_list_int, is_list_bool, is_list_tuple, is_list_list, is_list_str, is_dict_int, is_dict_bool, is_dict_tuple, is_dict_list, is_dict_str, R.all_ok, selE_t, selE_f, evB_at, evP_at, r_pass, r_set, r_own, r_frz, r_unp, r_par, r_app, r_popd, r_popa, r_swp, r_expr, r_ret, r_retm, r_retn, r_ifs, r_whl, r_fr, r_brk, r_cnt, r_raise, r_nil, e_var, e_lit, e_glo, e_u, e_b, e_isi, e_slc, e_rep, e_and, e_or, e_not, e_ite, e_chn, e_chn3, ch3_at, e_qcall, nox_ok, e_mth, e_mkx, mk_index, mk_join, mk_split, m_join, e_lrng, b_divm, e_tup, e_lst, e_call, e_comp, e_bor, e_d0, e_d1, e_pget, r_pput, u_max, u_min, e_oget, e_kin, e_kget, e_kgetd, e_klen, e_sset, e_sortk, r_kput, r_ins, r_ext, r_put, r_pop, e_rev, R.all_ask, es_nil, es_cons, eo_no, eo_yes, ei_seq, ei_rng, ei_zip, ei_enm, szle0, szlt0, szle1, szlt1, szle2, szlt2, szle3, szlt3, szle4, szlt4, szle5, szlt5, szle6, szlt6, szle7, szlt7, szle8, szlt8, szle9, szlt9, szle10, szlt10, szle11, szlt11, szle12, szlt12, szle13, szlt13, szle14, szlt14, szle15, szlt15, szle16, szlt16, szle17, szlt17, szle18, szlt18, szle19, szlt19, szle20, szlt20, szle21, szlt21, szle22, szlt22, szle23, szlt23, szle24, szlt24, szle25, szlt25, szle26, szlt26, szle27, szlt27, szle28, szlt28, szle29, szlt29, szle30, szlt30, Out.wp_nx, Out.wp_rt, Out.wp_bk, Out.wp_ct, eqS_int, isS_bl, R.bind_ok, R.out_ok, Sl.pd_v, Sl.pd_l, Sl.pd_k, List.set_cons_zero, List.set_cons_succ, List.getElem?_cons_zero, List.getElem?_cons_succ, List.getElem?_nil, Option.getD_some, Option.getD_none, if_true, Bool.false_eq_true, if_false, bt_nm, bt_tup, bt_lst, bts_nil, bts_cons, wipeE, start0, List.length_cons, List.length_nil, List.replicate, List.cons_append, List.nil_append, List.map_cons, List.map_nil, Nat.reduceAdd, Nat.reduceSub, Nat.zero_add, Bool.not_true, Bool.not_false, decide_true, decide_false, cg_nil, cg_cons, bls_nil, bls_cons, tst_at, cst_at, ch2_at, w_seq, w_sel, rest_nil, Out.wp_out, isB_ok, isI_ok, PD.flat, ne_eq, not_false_eq_true, Int.reduceEq, Int.reduceToNat, Int.reducePow, Int.reduceLT, Int.reduceLE, Int.reduceMul, Int.reduceAdd, Int.reduceSub, pow9, pow16, pow18, pow57, pow60, R.all_bind, R.all_nox, all_asP, all_asB, all_asI, gf_law_row_0, p6]
    refine take_all _ (by decide) (by decide) _ fun c c0 c1 => ?_
    obtain ⟨w, w0, w1, ew⟩ : ∃ w : Int, 0 < w ∧ w ≤ 1000000 ∧ atI [PD.int 4, .int 40, .int 1000000] c = some (.int w) := by
      have : c = 0 ∨ c = 1 ∨ c = 2 := by omega
      rcases this with rfl | rfl | rfl <;> exact ⟨_, by decide, by decide, rfl⟩
    simp only [asP_v, asP_l, asP_k, asB_ok, asI_ok, nox_ok, b_add, b_adds, b_addt, b_addl, b_sub, b_mul, b_fdiv, b_mod, b_pow, b_eq, b_ne, b_lt, b_le, b_gt, b_ge, b_is, b_isn, b_inn, b_nin, b_idxl, b_idxt, b_max, b_min, u_neg, u_lenl, u_lent, u_abs, u_int, u_intb, u_tupl, u_tupt, u_lstl, u_lstt, u_str, u_strs, u_all, u_any, u_sum, seq_l, seq_t, seq_s, sl_l, sl_t, sl_s, is_NoneType_int, is_NoneType_bool, is_NoneType_tuple, is_NoneType_list, is_NoneType_str, is_bool_int, is_bool_bool, is_bool_tuple, is_bool_list, is_bool_str, is_int_int, is_int_bool, is_int_tuple, is_int_list, is_int_str, is_str_int, is_str_bool, is_str_tuple, is_str_list, is_str_str, is_tuple_int, is_tuple_bool, is_tuple_tuple, is_tuple_list, is_tuple_str, is_list_int, is_list_bool, is_list_tuple, is_list_list, is_list_str, is_dict_int, is_dict_bool, is_dict_tuple, is_dict_list, is_dict_str, R.all_ok, selE_t, selE_f, evB_at, evP_at, r_pass, r_set, r_own, r_frz, r_unp, r_par, r_app, r_popd, r_popa, r_swp, r_expr, r_ret, r_retm, r_retn, r_ifs, r_whl, r_fr, r_brk, r_cnt, r_raise, r_nil, e_var, e_lit, e_glo, e_u, e_b, e_isi, e_slc, e_rep, e_and, e_or, e_not, e_ite, e_chn, e_chn3, ch3_at, e_qcall, nox_ok, e_mth, e_mkx, mk_index, mk_join, mk_split, m_join, e_lrng, b_divm, e_tup, e_lst, e_call, e_comp, e_bor, e_d0, e_d1, e_pget, r_pput, u_max, u_min, e_oget, e_kin, e_kget, e_kgetd, e_klen, e_sset, e_sortk, r_kput, r_ins, r_ext, r_put, r_pop, e_rev, R.all_ask, es_nil, es_cons, eo_no, eo_yes, ei_seq, ei_rng, ei_zip, ei_enm, szle0, szlt0, szle1, szlt1, szle2, szlt2, szle3, szlt3, szle4, szlt4, szle5, szlt5, szle6, szlt6, szle7, szlt7, szle8, szlt8, szle9, szlt9, szle10, szlt10, szle11, szlt11, szle12, szlt12, szle13, szlt13, szle14, szlt14, szle15, szlt15, szle16, szlt16, szle17, szlt17, szle18, szlt18, szle19, szlt19, szle20, szlt20, szle21, szlt21, szle22, szlt22, szle23, szlt23, szle24, szlt24, szle25, szlt25, szle26, szlt26, szle27, szlt27, szle28, szlt28, szle29, szlt29, szle30, szlt30, Out.wp_nx, Out.wp_rt, Out.wp_bk, Out.wp_ct, eqS_int, isS_bl, R.bind_ok, R.out_ok, Sl.pd_v, Sl.pd_l, Sl.pd_k, List.set_cons_zero, List.set_cons_succ, List.getElem?_cons_zero, List.getElem?_cons_succ, List.getElem?_nil, Option.getD_some, Option.getD_none, if_true, Bool.false_eq_true, if_false, bt_nm, bt_tup, bt_lst, bts_nil, bts_cons, wipeE, start0, List.length_cons, List.length_nil, List.replicate, List.cons_append, List.nil_append, List.map_cons, List.map_nil, Nat.reduceAdd, Nat.reduceSub, Nat.zero_add, Bool.not_true, Bool.not_false, decide_true, decide_false, cg_nil, cg_cons, bls_nil, bls_cons, tst_at, cst_at, ch2_at, w_seq, w_sel, rest_nil, Out.wp_out, isB_ok, isI_ok, PD.flat, ne_eq, not_false_eq_true, Int.reduceEq, Int.reduceToNat, Int.reducePow, Int.reduceLT, Int.reduceLE, Int.reduceMul, Int.reduceAdd, Int.reduceSub, pow9, pow16, pow18, pow57, pow60, ew]
    refine take_all _ w0 (by omega) _ fun e e0 e1 => ?_
    simp only [asP_v, asP_l, asP_k, asB_ok, asI_ok, nox_ok, b_add, b_adds, b_addt, b_addl, b_sub, b_mul, b_fdiv, b_mod, b_pow, b_eq, b_ne, b_lt, b_le, b_gt, b_ge, b_is, b_isn, b_inn, b_nin, b_idxl, b_idxt, b_max, b_min, u_neg, u_lenl, u_lent, u_abs, u_int, u_intb, u_tupl, u_tupt, u_lstl, u_lstt, u_str, u_strs, u_all, u_any, u_sum, seq_l, seq_t, seq_s, sl_l, sl_t, sl_s, is_NoneType_int, is_NoneType_bool, is_NoneType_tuple, is_NoneType_list, is_NoneType_str, is_bool_int, is_bool_bool, is_bool_tuple, is_bool_list, is_bool_str, is_int_int, is_int_bool, is_int_tuple, is_int_list, is_int_str, is_str_int, is_str_bool, is_str_tuple, is_str_list, is_str_str, is_tuple_int, is_tuple_bool, is_tuple_tuple, is_tuple_list, is_tuple_str, is_list_int, is_list_bool, is_list_tuple, is_list_list, is_list_str, is_dict_int, is_dict_bool, is_dict_tuple, is_dict_list, is_dict_str, R.all_ok, selE_t, selE_f, evB_at, evP_at, r_pass, r_set, r_own, r_frz, r_unp, r_par, r_app, r_popd, r_popa, r_swp, r_expr, r_ret, r_retm, r_retn, r_ifs, r_whl, r_fr, r_brk, r_cnt, r_raise, r_nil, e_var, e_lit, e_glo, e_u, e_b, e_isi, e_slc, e_rep, e_and, e_or, e_not, e_ite, e_chn, e_chn3, ch3_at, e_qcall, nox_ok, e_mth, e_mkx, mk_index, mk_join, mk_split, m_join, e_lrng, b_divm, e_tup, e_lst, e_call, e_comp, e_bor, e_d0, e_d1, e_pget, r_pput, u_max, u_min, e_oget, e_kin, e_kget, e_kgetd, e_klen, e_sset, e_sortk, r_kput, r_ins, r_ext, r_put, r_pop, e_rev, R.all_ask, es_nil, es_cons, eo_no, eo_yes, ei_seq, ei_rng, ei_zip, ei_enm, szle0, szlt0, szle1, szlt1, szle2, szlt2, szle3, szlt3, szle4, szlt4, szle5, szlt5, szle6, szlt6, szle7, szlt7, szle8, szlt8, szle9, szlt9, szle10, szlt10, szle11, szlt11, szle12, szlt12, szle13, szlt13, szle14, szlt14, szle15, szlt15, szle16, szlt16, szle17, szlt17, szle18, szlt18, szle19, szlt19, szle20, szlt20, szle21, szlt21, szle22, szlt22, szle23, szlt23, szle24, szlt24, szle25, szlt25, szle26, szlt26, szle27, szlt27, szle28, szlt28, szle29, szlt29, szle30, szlt30, Out.wp_nx, Out.wp_rt, Out.wp_bk, Out.wp_ct, eqS_int, isS_bl, R.bind_ok, R.out_ok, Sl.pd_v, Sl.pd_l, Sl.pd_k, List.set_cons_zero, List.set_cons_succ, List.getElem?_cons_zero, List.getElem?_cons_succ, List.getElem?_nil, Option.getD_some, Option.getD_none, if_true, Bool.false_eq_true, if_false, bt_nm, bt_tup, bt_lst, bts_nil, bts_cons, wipeE, start0, List.length_cons, List.length_nil, List.replicate, List.cons_append, List.nil_append, List.map_cons, List.map_nil, Nat.reduceAdd, Nat.reduceSub, Nat.zero_add, Bool.not_true, Bool.not_false, decide_true, decide_false, cg_nil, cg_cons, bls_nil, bls_cons, tst_at, cst_at, ch2_at, w_seq, w_sel, rest_nil, Out.wp_out, isB_ok, isI_ok, PD.flat, ne_eq, not_false_eq_true, Int.reduceEq, Int.reduceToNat, Int.reducePow, Int.reduceLT, Int.reduceLE, Int.reduceMul, Int.reduceAdd, Int.reduceSub, pow9, pow16, pow18, pow57, pow60]
    exact ⟨e, by omega, rfl⟩
  rw [List.length_range] at l2
  have hpr : p = (rs.length : Int) := by omega
  simp only [asP_v, asP_l, asP_k, asB_ok, asI_ok, nox_ok, b_add, b_adds, b_addt, b_addl, b_sub, b_mul, b_fdiv, b_mod, b_pow, b_eq, b_ne, b_lt, b_le, b_gt, b_ge, b_is, b_isn, b_inn, b_nin, b_idxl, b_idxt, b_max, b_min, u_neg, u_lenl, u_lent, u_abs, u_int, u_intb, u_tupl, u_tupt, u_lstl, u_lstt, u_str, u_strs, u_all, u_any, u_sum, seq_l, seq_t, seq_s, sl_l, sl_t, sl_s, is_NoneType_int, is_NoneType_bool, is_NoneType_tuple, is_NoneType_list, is_NoneType_str, is_bool_int, is_bool_bool, is_bool_tuple, is_bool_list, is_bool_str, is_int_int, is_int_bool, is_int_tuple, is_int_list, is_int_str, is_str_int, is_str_bool, is_str_tuple, is_str_list, is_str_str, is_tuple_int, is_tuple_bool, is_tuple_tuple, is_tuple_list, is_tuple_str, is_list_int, is_list_bool, is_list_tuple, is_list_list, is_list_str, is_dict_int, is_dict_bool, is_dict_tuple, is_dict_list, is_dict_str, R.all_ok, selE_t, selE_f, evB_at, evP_at, r_pass, r_set, r_own, r_frz, r_unp, r_par, r_app, r_popd, r_popa, r_swp, r_expr, r_ret, r_retm, r_retn, r_ifs, r_whl, r_fr, r_brk, r_cnt, r_raise, r_nil, e_var, e_lit, e_glo, e_u, e_b, e_isi, e_slc, e_rep, e_and, e_or, e_not, e_ite, e_chn, e_chn3, ch3_at, e_qcall, nox_ok, e_mth, e_mkx, mk_index, mk_join, mk_split, m_join, e_lrng, b_divm, e_tup, e_lst, e_call, e_comp, e_bor, e_d0, e_d1, e_pget, r_pput, u_max, u_min, e_oget, e_kin, e_kget, e_kgetd, e_klen, e_sset, e_sortk, r_kput, r_ins, r_ext, r_put, r_pop, e_rev, R.all_ask, es_nil, es_cons, eo_no, eo_yes, ei_seq, ei_rng, ei_zip, ei_enm, szle0, szlt0, szle1, szlt1, szle2, szlt2, szle3, szlt3, szle4, szlt4, szle5, szlt5, szle6, szlt6, szle7, szlt7, szle8, szlt8, szle9, szlt9, szle10, szlt10, szle11, szlt11, szle12, szlt12, szle13, szlt13, szle14, szlt14, szle15, szlt15, szle16, szlt16, szle17, szlt17, szle18, szlt18, szle19, szlt19, szle20, szlt20, szle21, szlt21, szle22, szlt22, szle23, szlt23, szle24, szlt24, szle25, szlt25, szle26, szlt26, szle27, szlt27, szle28, szlt28, szle29, szlt29, szle30, szlt30, Out.wp_nx, Out.wp_rt, Out.wp_bk, Out.wp_ct, eqS_int, isS_bl, R.bind_ok, R.out_ok, Sl.pd_v, Sl.pd_l, Sl.pd_k, List.set_cons_zero, List.set_cons_succ, List.getElem?_cons_zero, List.getElem?_cons_succ, List.getElem?_nil, Option.getD_some, Option.getD_none, if_true, Bool.false_eq_true, if_false, bt_nm, bt_tup, bt_lst, bts_nil, bts_cons, wipeE, start0, List.length_cons, List.length_nil, List.replicate, List.cons_append, List.nil_append, List.map_cons, List.map_nil, Nat.reduceAdd, Nat.reduceSub, Nat.zero_add, Bool.not_true, Bool.not_false, decide_true, decide_false, cg_nil, cg_cons, bls_nil, bls_cons, tst_at, cst_at, ch2_at, w_seq, w_sel, rest_nil, Out.wp_out, isB_ok, isI_ok, PD.flat, ne_eq, not_false_eq_true, Int.reduceEq, Int.reduceToNat, Int.reducePow, Int.reduceLT, Int.reduceLE, Int.reduceMul, Int.reduceAdd, Int.reduceSub, pow9, pow16, pow18, pow57, pow60]
  (refine Rest.mk ?_; simp only [asP_v, asP_l, asP_k, asB_ok, asI_ok, nox_ok, b_add, b_adds, b_addt, b_addl, b_sub, b_mul, b_fdiv, b_mod, b_pow, b_eq, b_ne, b_lt, b_le, b_gt, b_ge, b_is, b_isn, b_inn, b_nin, b_idxl, b_idxt, b_max, b_min, u_neg, u_lenl, u_lent, u_abs, u_int, u_intb, u_tupl, u_tupt, u_lstl, u_lstt, u_str, u_strs, u_all, u_any, u_sum, seq_l, seq_t, seq_s, sl_l, sl_t, sl_s, is_NoneType_int, is_NoneType_bool, is_NoneType_tuple, is_NoneType_list, is_NoneType_str, is_bool_int, is_bool_bool, is_bool_tuple, is_bool_list, is_bool_str, is_int_int, is_int_bool, is_int_tuple, is_int_list, is_int_str, is_str_int, is_str_bool, is_str_tuple, is_str_list, is_str_str, is_tuple_int, is_tuple_bool, is_tuple_tuple, is_tuple_list, is_tuple_str, is_list_int, is_list_bool, is_list_tuple, is_list_list, is_list_str, is_dict_int, is_dict_bool, is_dict_tuple, is_dict_list, is_dict_str, R.all_ok, selE_t, selE_f, evB_at, evP_at, r_pass, r_set, r_own, r_frz, r_unp, r_par, r_app, r_popd, r_popa, r_swp, r_expr, r_ret, r_retm, r_retn, r_ifs, r_whl, r_fr, r_brk, r_cnt, r_raise, r_nil, e_var, e_lit, e_glo, e_u, e_b, e_isi, e_slc, e_rep, e_and, e_or, e_not, e_ite, e_chn, e_chn3, ch3_at, e_qcall, nox_ok, e_mth, e_mkx, mk_index, mk_join, mk_split, m_join, e_lrng, b_divm, e_tup, e_lst, e_call, e_comp, e_bor, e_d0, e_d1, e_pget, r_pput, u_max, u_min, e_oget, e_kin, e_kget, e_kgetd, e_klen, e_sset, e_sortk, r_kput, r_ins, r_ext, r_put, r_pop, e_rev, R.all_ask, es_nil, es_cons, eo_no, eo_yes, ei_seq, ei_rng, ei_zip, ei_enm, szle0, szlt0, szle1, szlt1, szle2, szlt2, szle3, szlt3, szle4, szlt4, szle5, szlt5, szle6, szlt6, szle7, szlt7, szle8, szlt8, szle9, szlt9, szle10, szlt10, szle11, szlt11, szle12, szlt12, szle13, szlt13, szle14, szlt14, szle15, szlt15, szle16, szlt16, szle17, szlt17, szle18, szlt18, szle19, szlt19, szle20, szlt20, szle21, szlt21, szle22, szlt22, szle23, szlt23, szle24, szlt24, szle25, szlt25, szle26, szlt26, szle27, szlt27, szle28, szlt28, szle29, szlt29, szle30, szlt30, Out.wp_nx, Out.wp_rt, Out.wp_bk, Out.wp_ct, eqS_int, isS_bl, R.bind_ok, R.out_ok, Sl.pd_v, Sl.pd_l, Sl.pd_k, List.set_cons_zero, List.set_cons_succ, List.getElem?_cons_zero, List.getElem?_cons_succ, List.getElem?_nil, Option.getD_some, Option.getD_none, if_true, Bool.false_eq_true, if_false, bt_nm, bt_tup, bt_lst, bts_nil, bts_cons, wipeE, start0, List.length_cons, List.length_nil, List.replicate, List.cons_append, List.nil_append, List.map_cons, List.map_nil, Nat.reduceAdd, Nat.reduceSub, Nat.zero_add, Bool.not_true, Bool.not_false, decide_true, decide_false, cg_nil, cg_cons, bls_nil, bls_cons, tst_at, cst_at, ch2_at, w_seq, w_sel, rest_nil, Out.wp_out, isB_ok, isI_ok, PD.flat, ne_eq, not_false_eq_true, Int.reduceEq, Int.reduceToNat, Int.reducePow, Int.reduceLT, Int.reduceLE, Int.reduceMul, Int.reduceAdd, Int.reduceSub, pow9, pow16, pow18, pow57, pow60, R.all_bind, R.all_nox, all_asP, all_asB, all_asI])
  unfold x_law_row_1
  refine ev_map_it (fun (i : Nat) => PD.int i) PD.int (fun _ y => y.natAbs < 2000000) _ ?_
  simp only [asP_v, asP_l, asP_k, asB_ok, asI_ok, nox_ok, b_add, b_adds, b_addt, b_addl, b_sub, b_mul, b_fdiv, b_mod, b_pow, b_eq, b_ne, b_lt, b_le, b_gt, b_ge, b_is, b_isn, b_inn, b_nin, b_idxl, b_idxt, b_max, b_min, u_neg, u_lenl, u_lent, u_abs, u_int, u_intb, u_tupl, u_tupt, u_lstl, u_lstt, u_str, u_strs, u_all, u_any, u_sum, seq_l, seq_t, seq_s, sl_l, sl_t, sl_s, is_NoneType_int, is_NoneType_bool, is_NoneType_tuple, is_NoneType_list, is_NoneType_str, is_bool_int, is_bool_bool, is_bool_tuple, is_bool_list, is_bool_str, is_int_int, is_int_bool, is_int_tuple, is_int_list, is_int_str, is_str_int, is_str_bool, is_str_tuple, is_str_list, is_str_str, is_tuple_int, is_tuple_bool, is_tuple_tuple, is_tuple_list, is_tuple_str, is_list_int, is_list_bool, is_list_tuple, is_list_list, is_list_str, is_dict_int, is_dict_bool, is_dict_tuple, is_dict_list, is_dict_str, R.all_ok, selE_t, selE_f, evB_at, evP_at, r_pass, r_set, r_own, r_frz, r_unp, r_par, r_app, r_popd, r_popa, r_swp, r_expr, r_ret, r_retm, r_retn, r_ifs, r_whl, r_fr, r_brk, r_cnt, r_raise, r_nil, e_var, e_lit, e_glo, e_u, e_b, e_isi, e_slc, e_rep, e_and, e_or, e_not, e_ite, e_chn, e_chn3, ch3_at, e_qcall, nox_ok, e_mth, e_mkx, mk_index, mk_join, mk_split, m_join, e_lrng, b_divm, e_tup, e_lst, e_call, e_comp, e_bor, e_d0, e_d1, e_pget, r_pput, u_max, u_min, e_oget, e_kin, e_kget, e_kgetd, e_klen, e_sset, e_sortk, r_kput, r_ins, r_ext, r_put, r_pop, e_rev, R.all_ask, es_nil, es_cons, eo_no, eo_yes, ei_seq, ei_rng, ei_zip, ei_enm, szle0, szlt0, szle1, szlt1, szle2, szlt2, szle3, szlt3, szle4, szlt4, szle5, szlt5, szle6, szlt6, szle7, szlt7, szle8, szlt8, szle9, szlt9, szle10, szlt10, szle11, szlt11, szle12, szlt12, szle13, szlt13, szle14, szlt14, szle15, szlt15, szle16, szlt16, szle17, szlt17, szle18, szlt18, szle19, szlt19, szle20, szlt20, szle21, szlt21, szle22, szlt22, szle23, szlt23, szle24, szlt24, szle25, szlt25, szle26, szlt26, szle27, szlt27, szle28, szlt28, szle29, szlt29, szle30, szlt30, Out.wp_nx, Out.wp_rt, Out.wp_bk, Out.wp_ct, eqS_int, isS_bl, R.bind_ok, R.out_ok, Sl.pd_v, Sl.pd_l, Sl.pd_k, List.set_cons_zero, List.set_cons_succ, List.getElem?_cons_zero, List.getElem?_cons_succ, List.getElem?_nil, Option.getD_some, Option.getD_none, if_true, Bool.false_eq_true, if_false, bt_nm, bt_tup, bt_lst, bts_nil, bts_cons, wipeE, start0, List.length_cons, List.length_nil, List.replicate, List.cons_append, List.nil_append, List.map_cons, List.map_nil, Nat.reduceAdd, Nat.reduceSub, Nat.zero_add, Bool.not_true, Bool.not_false, decide_true, decide_false, cg_nil, cg_cons, bls_nil, bls_cons, tst_at, cst_at, ch2_at, w_seq, w_sel, rest_nil, Out.wp_out, isB_ok, isI_ok, PD.flat, ne_eq, not_false_eq_true, Int.reduceEq, Int.reduceToNat, Int.reducePow, Int.reduceLT, Int.reduceLE, Int.reduceMul, Int.reduceAdd, Int.reduceSub, pow9, pow16, pow18, pow57, pow60, R.all_bind, R.all_nox, all_asP, all_asB, all_asI, gf_law_row_0, m2]
  refine take_all _ (by decide) (by decide) _ fun c c0 c1 => ?_
  simp only [asP_v, asP_l, asP_k, asB_ok, asI_ok, nox_ok, b_add, b_adds, b_addt, b_addl, b_sub, b_mul, b_fdiv, b_mod, b_pow, b_eq, b_ne, b_lt, b_le, b_gt, b_ge, b_is, b_isn, b_inn, b_nin, b_idxl, b_idxt, b_max, b_min, u_neg, u_lenl, u_lent, u_abs, u_int, u_intb, u_tupl, u_tupt, u_lstl, u_lstt, u_str, u_strs, u_all, u_any, u_sum, seq_l, seq_t, seq_s, sl_l, sl_t, sl_s, is_NoneType_int, is_NoneType_bool, is_NoneType_tuple, is_NoneType_list, is_NoneType_str, is_bool_int, is_bool_bool, is_bool_tuple, is_bool_list, is_bool_str, is_int_int, is_int_bool, is_int_tuple, is_int_list, is_int_str, is_str_int, is_str_bool, is_str_tuple, is_str_list, is_str_str, is_tuple_int, is_tuple_bool, is_tuple_tuple, is_tuple_list, is_tuple_str, is_list_int, is_list_bool, is_list_tuple, is_list_list, is_list_str, is_dict_int, is_dict_bool, is_dict_tuple, is_dict_list, is_dict_str, R.all_ok, selE_t, selE_f, evB_at, evP_at, r_pass, r_set, r_own, r_frz, r_unp, r_par, r_app, r_popd, r_popa, r_swp, r_expr, r_ret, r_retm, r_retn, r_ifs, r_whl, r_fr, r_brk, r_cnt, r_raise, r_nil, e_var, e_lit, e_glo, e_u, e_b, e_isi, e_slc, e_rep, e_and, e_or, e_not, e_ite, e_chn, e_chn3, ch3_at, e_qcall, nox_ok, e_mth, e_mkx, mk_index, mk_join, mk_split, m_join, e_lrng, b_divm, e_tup, e_lst, e_call, e_comp, e_bor, e_d0, e_d1, e_pget, r_pput, u_max, u_min, e_oget, e_kin, e_kget, e_kgetd, e_klen, e_sset, e_sortk, r_kput, r_ins, r_ext, r_put, r_pop, e_rev, R.all_ask, es_nil, es_cons, eo_no, eo_yes, ei_seq, ei_rng, ei_zip, ei_enm, szle0, szlt0, szle1, szlt1, szle2, szlt2, szle3, szlt3, szle4, szlt4, szle5, szlt5, szle6, szlt6, szle7, szlt7, szle8, szlt8, szle9, szlt9, szle10, szlt10, szle11, szlt11, szle12, szlt12, szle13, szlt13, szle14, szlt14, szle15, szlt15, szle16, szlt16, szle17, szlt17, szle18, szlt18, szle19, szlt19, szle20, szlt20, szle21, szlt21, szle22, szlt22, szle23, szlt23, szle24, szlt24, szle25, szlt25, szle26, szlt26, szle27, szlt27, szle28, szlt28, szle29, szlt29, szle30, szlt30, Out.wp_nx, Out.wp_rt, Out.wp_bk, Out.wp_ct, eqS_int, isS_bl, R.bind_ok, R.out_ok, Sl.pd_v, Sl.pd_l, Sl.pd_k, List.set_cons_zero, List.set_cons_succ, List.getElem?_cons_zero, List.getElem?_cons_succ, List.getElem?_nil, Option.getD_some, Option.getD_none, if_true, Bool.false_eq_true, if_false, bt_nm, bt_tup, bt_lst, bts_nil, bts_cons, wipeE, start0, List.length_cons, List.length_nil, List.replicate, List.cons_append, List.nil_append, List.map_cons, List.map_nil, Nat.reduceAdd, Nat.reduceSub, Nat.zero_add, Bool.not_true, Bool.not_false, decide_true, decide_false, cg_nil, cg_cons, bls_nil, bls_cons, tst_at, cst_at, ch2_at, w_seq, w_sel, rest_nil, Out.wp_out, isB_ok, isI_ok, PD.flat, ne_eq, not_false_eq_true, Int.reduceEq, Int.reduceToNat, Int.reducePow, Int.reduceLT, Int.reduceLE, Int.reduceMul, Int.reduceAdd, Int.reduceSub, pow9, pow16, pow18, pow57, pow60, rng_up (smallI_of (show 0 ≤ p + c by omega) (show p + c < 2 ^ 62 by omega)), rng_nat]
  refine ⟨List.range (p + c).toNat, rfl, by rw [List.length_range, sizeLine_eq]; omega, fun x _ => ⟨_, rfl, ?_⟩, fun ms lm qm => ?_⟩
  · simp only [asP_v, asP_l, asP_k, asB_ok, asI_ok, nox_ok, b_add, b_adds, b_addt, b_addl, b_sub, b_mul, b_fdiv, b_mod, b_pow, b_eq, b_ne, b_lt, b_le, b_gt, b_ge, b_is, b_isn, b_inn, b_nin, b_idxl, b_idxt, b_max, b_min, u_neg, u_lenl, u_lent, u_abs, u_int, u_intb, u_tupl, u_tupt, u_lstl, u_lstt, u_str, u_strs, u_all, u_any, u_sum, seq_l, seq_t, seq_s, sl_l, sl_t, sl_s, is_NoneType_int, is_NoneType_bool, is_NoneType_tuple, is_NoneType_list, is_NoneType_str, is_bool_int, is_bool_bool, is_bool_tuple, is_bool_list, is_bool_str, is_int_int, is_int_bool, is_int_tuple, is_int_list, is_int_str, is_str_int, is_str_bool, is_str_tuple, is_str_list, is_str_str, is_tuple_int, is_tuple_bool, is_tuple_tuple, is_tuple_list, is_tuple_str, is_list_int, is_list_bool, is_list_tuple, is_list_list, is_list_str, is_dict_int, is_dict_bool, is_dict_tuple, is_dict_list, is_dict_str, R.all_ok, selE_t, selE_f, evB_at, evP_at, r_pass, r_set, r_own, r_frz, r_unp, r_par, r_app, r_popd, r_popa, r_swp, r_expr, r_ret, r_retm, r_retn, r_ifs, r_whl, r_fr, r_brk, r_cnt, r_raise, r_nil, e_var, e_lit, e_glo, e_u, e_b, e_isi, e_slc, e_rep, e_and, e_or, e_not, e_ite, e_chn, e_chn3, ch3_at, e_qcall, nox_ok, e_mth, e_mkx, mk_index, mk_join, mk_split, m_join, e_lrng, b_divm, e_tup, e_lst, e_call, e_comp, e_bor, e_d0, e_d1, e_pget, r_pput, u_max, u_min, e_oget, e_kin, e_kget, e_kgetd, e_klen, e_sset, e_sortk, r_kput, r_ins, r_ext, r_put, r_pop, e_rev, R.all_ask, es_nil, es_cons, eo_no, eo_yes, ei_seq, ei_rng, ei_zip, ei_enm, szle0, szlt0, szle1, szlt1, szle2, szlt2, szle3, szlt3, szle4, szlt4, szle5, szlt5, szle6, szlt6, szle7, szlt7, szle8, szlt8, szle9, szlt9, szle10, szlt10, szle11, szlt11, szle12, szlt12, szle13, szlt13, szle14, szlt14, szle15, szlt15, szle16, szlt16, szle17, szlt17, szle18, szlt18, szle19, szlt19, szle20, szlt20, szle21, szlt21, szle22, szlt22, szle23, szlt23, szle24, szlt24, szle25, szlt25, szle26, szlt26, szle27, szlt27, szle28, szlt28, szle29, szlt29, szle30, szlt30, Out.wp_nx, Out.wp_rt, Out.wp_bk, Out.wp_ct, eqS_int, isS_bl, R.bind_ok, R.out_ok, Sl.pd_v, Sl.pd_l, Sl.pd_k, List.set_cons_zero, List.set_cons_succ, List.getElem?_cons_zero, List.getElem?_cons_succ, List.getElem?_nil, Option.getD_some, Option.getD_none, if_true, Bool.false_eq_true, if_false, bt_nm, bt_tup, bt_lst, bts_nil, bts_cons, wipeE, start0, List.length_cons, List.length_nil, List.replicate, List.cons_append, List.nil_append, List.map_cons, List.map_nil, Nat.reduceAdd, Nat.reduceSub, Nat.zero_add, Bool.not_true, Bool.not_false, decide_true, decide_false, cg_nil, cg_cons, bls_nil, bls_cons, tst_at, cst_at, ch2_at, w_seq, w_sel, rest_nil, Out.wp_out, isB_ok, isI_ok, PD.flat, ne_eq, not_false_eq_true, Int.reduceEq, Int.reduceToNat, Int.reducePow, Int.reduceLT, Int.reduceLE, Int.reduceMul, Int.reduceAdd, Int.reduceSub, pow9, pow16, pow18, pow57, pow60]
    refine take_all _ (by decide) (by decide) _ fun e e0 e1 => ?_
    simp only [asP_v, asP_l, asP_k, asB_ok, asI_ok, nox_ok, b_add, b_adds, b_addt, b_addl, b_sub, b_mul, b_fdiv, b_mod, b_pow, b_eq, b_ne, b_lt, b_le, b_gt, b_ge, b_is, b_isn, b_inn, b_nin, b_idxl, b_idxt, b_max, b_min, u_neg, u_lenl, u_lent, u_abs, u_int, u_intb, u_tupl, u_tupt, u_lstl, u_lstt, u_str, u_strs, u_all, u_any, u_sum, seq_l, seq_t, seq_s, sl_l, sl_t, sl_s, is_NoneType_int, is_NoneType_bool, is_NoneType_tuple, is_NoneType_list, is_NoneType_str, is_bool_int, is_bool_bool, is_bool_tuple, is_bool_list, is_bool_str, is_int_int, is_int_bool, is_int_tuple, is_int_list, is_int_str, is_str_int, is_str_bool, is_str_tuple, is_str_list, is_str_str, is_tuple_int, is_tuple_bool, is_tuple_tuple, is_tuple_list, is_tuple_str, is_list_int, is_list_bool, is_list_tuple, is_list_list, is_list_str, is_dict_int, is_dict_bool, is_dict_tuple, is_dict_list, is_dict_str, R.all_ok, selE_t, selE_f, evB_at, evP_at, r_pass, r_set, r_own, r_frz, r_unp, r_par, r_app, r_popd, r_popa, r_swp, r_expr, r_ret, r_retm, r_retn, r_ifs, r_whl, r_fr, r_brk, r_cnt, r_raise, r_nil, e_var, e_lit, e_glo, e_u, e_b, e_isi, e_slc, e_rep, e_and, e_or, e_not, e_ite, e_chn, e_chn3, ch3_at, e_qcall, nox_ok, e_mth, e_mkx, mk_index, mk_join, mk_split, m_join, e_lrng, b_divm, e_tup, e_lst, e_call, e_comp, e_bor, e_d0, e_d1, e_pget, r_pput, u_max, u_min, e_oget, e_kin, e_kget, e_kgetd, e_klen, e_sset, e_sortk, r_kput, r_ins, r_ext, r_put, r_pop, e_rev, R.all_ask, es_nil, es_cons, eo_no, eo_yes, ei_seq, ei_rng, ei_zip, ei_enm, szle0, szlt0, szle1, szlt1, szle2, szlt2, szle3, szlt3, szle4, szlt4, szle5, szlt5, szle6, szlt6, szle7, szlt7, szle8, szlt8, szle9, szlt9, szle10, szlt10, szle11, szlt11, szle12, szlt12, szle13, szlt13, szle14, szlt14, szle15, szlt15, szle16, szlt16, szle17, szlt17, szle18, szlt18, szle19, szlt19, szle20, szlt20, szle21, szlt21, szle22, szlt22, szle23, szlt23, szle24, szlt24, szle25, szlt25, szle26, szlt26, szle27, szlt27, szle28, szlt28, szle29, szlt29, szle30, szlt30, Out.wp_nx, Out.wp_rt, Out.wp_bk, Out.wp_ct, eqS_int, isS_bl, R.bind_ok, R.out_ok, Sl.pd_v, Sl.pd_l, Sl.pd_k, List.set_cons_zero, List.set_cons_succ, List.getElem?_cons_zero, List.getElem?_cons_succ, List.getElem?_nil, Option.getD_some, Option.getD_none, if_true, Bool.false_eq_true, if_false, bt_nm, bt_tup, bt_lst, bts_nil, bts_cons, wipeE, start0, List.length_cons, List.length_nil, List.replicate, List.cons_append, List.nil_append, List.map_cons, List.map_nil, Nat.reduceAdd, Nat.reduceSub, Nat.zero_add, Bool.not_true, Bool.not_false, decide_true, decide_false, cg_nil, cg_cons, bls_nil, bls_cons, tst_at, cst_at, ch2_at, w_seq, w_sel, rest_nil, Out.wp_out, isB_ok, isI_ok, PD.flat, ne_eq, not_false_eq_true, Int.reduceEq, Int.reduceToNat, Int.reducePow, Int.reduceLT, Int.reduceLE, Int.reduceMul, Int.reduceAdd, Int.reduceSub, pow9, pow16, pow18, pow57, pow60]
    exact ⟨e, by omega, rfl⟩
  rw [List.length_range] at lm
  have h : RwOk ms rs := ⟨by omega, by omega, by omega, by omega⟩
  obtain ⟨ks, ek, hk, hl, hm⟩ := loop_row h p hpr .pot (.int 6)
  (refine Rest.mk ?_; simp only [asP_v, asP_l, asP_k, asB_ok, asI_ok, nox_ok, b_add, b_adds, b_addt, b_addl, b_sub, b_mul, b_fdiv, b_mod, b_pow, b_eq, b_ne, b_lt, b_le, b_gt, b_ge, b_is, b_isn, b_inn, b_nin, b_idxl, b_idxt, b_max, b_min, u_neg, u_lenl, u_lent, u_abs, u_int, u_intb, u_tupl, u_tupt, u_lstl, u_lstt, u_str, u_strs, u_all, u_any, u_sum, seq_l, seq_t, seq_s, sl_l, sl_t, sl_s, is_NoneType_int, is_NoneType_bool, is_NoneType_tuple, is_NoneType_list, is_NoneType_str, is_bool_int, is_bool_bool, is_bool_tuple, is_bool_list, is_bool_str, is_int_int, is_int_bool, is_int_tuple, is_int_list, is_int_str, is_str_int, is_str_bool, is_str_tuple, is_str_list, is_str_str, is_tuple_int, is_tuple_bool, is_tuple_tuple, is_tuple_list, is_tuple_str, is_list_int, is_list_bool, is_list_tuple, is_list_list, is_list_str, is_dict_int, is_dict_bool, is_dict_tuple, is_dict_list, is_dict_str, R.all_ok, selE_t, selE_f, evB_at, evP_at, r_pass, r_set, r_own, r_frz, r_unp, r_par, r_app, r_popd, r_popa, r_swp, r_expr, r_ret, r_retm, r_retn, r_ifs, r_whl, r_fr, r_brk, r_cnt, r_raise, r_nil, e_var, e_lit, e_glo, e_u, e_b, e_isi, e_slc, e_rep, e_and, e_or, e_not, e_ite, e_chn, e_chn3, ch3_at, e_qcall, nox_ok, e_mth, e_mkx, mk_index, mk_join, mk_split, m_join, e_lrng, b_divm, e_tup, e_lst, e_call, e_comp, e_bor, e_d0, e_d1, e_pget, r_pput, u_max, u_min, e_oget, e_kin, e_kget, e_kgetd, e_klen, e_sset, e_sortk, r_kput, r_ins, r_ext, r_put, r_pop, e_rev, R.all_ask, es_nil, es_cons, eo_no, eo_yes, ei_seq, ei_rng, ei_zip, ei_enm, szle0, szlt0, szle1, szlt1, szle2, szlt2, szle3, szlt3, szle4, szlt4, szle5, szlt5, szle6, szlt6, szle7, szlt7, szle8, szlt8, szle9, szlt9, szle10, szlt10, szle11, szlt11, szle12, szlt12, szle13, szlt13, szle14, szlt14, szle15, szlt15, szle16, szlt16, szle17, szlt17, szle18, szlt18, szle19, szlt19, szle20, szlt20, szle21, szlt21, szle22, szlt22, szle23, szlt23, szle24, szlt24, szle25, szlt25, szle26, szlt26, szle27, szlt27, szle28, szlt28, szle29, szlt29, szle30, szlt30, Out.wp_nx, Out.wp_rt, Out.wp_bk, Out.wp_ct, eqS_int, isS_bl, R.bind_ok, R.out_ok, Sl.pd_v, Sl.pd_l, Sl.pd_k, List.set_cons_zero, List.set_cons_succ, List.getElem?_cons_zero, List.getElem?_cons_succ, List.getElem?_nil, Option.getD_some, Option.getD_none, if_true, Bool.false_eq_true, if_false, bt_nm, bt_tup, bt_lst, bts_nil, bts_cons, wipeE, start0, List.length_cons, List.length_nil, List.replicate, List.cons_append, List.nil_append, List.map_cons, List.map_nil, Nat.reduceAdd, Nat.reduceSub, Nat.zero_add, Bool.not_true, Bool.not_false, decide_true, decide_false, cg_nil, cg_cons, bls_nil, bls_cons, tst_at, cst_at, ch2_at, w_seq, w_sel, rest_nil, Out.wp_out, isB_ok, isI_ok, PD.flat, ne_eq, not_false_eq_true, Int.reduceEq, Int.reduceToNat, Int.reducePow, Int.reduceLT, Int.reduceLE, Int.reduceMul, Int.reduceAdd, Int.reduceSub, pow9, pow16, pow18, pow57, pow60, ek])
  (refine Rest.mk ?_; simp only [asP_v, asP_l, asP_k, asB_ok, asI_ok, nox_ok, b_add, b_adds, b_addt, b_addl, b_sub, b_mul, b_fdiv, b_mod, b_pow, b_eq, b_ne, b_lt, b_le, b_gt, b_ge, b_is, b_isn, b_inn, b_nin, b_idxl, b_idxt, b_max, b_min, u_neg, u_lenl, u_lent, u_abs, u_int, u_intb, u_tupl, u_tupt, u_lstl, u_lstt, u_str, u_strs, u_all, u_any, u_sum, seq_l, seq_t, seq_s, sl_l, sl_t, sl_s, is_NoneType_int, is_NoneType_bool, is_NoneType_tuple, is_NoneType_list, is_NoneType_str, is_bool_int, is_bool_bool, is_bool_tuple, is_bool_list, is_bool_str, is_int_int, is_int_bool, is_int_tuple, is_int_list, is_int_str, is_str_int, is_str_bool, is_str_tuple, is_str_list, is_str_str, is_tuple_int, is_tuple_bool, is_tuple_tuple, is_tuple_list, is_tuple_str, is_list_int, is_list_bool, is_list_tuple, is_list_list, is_list_str, is_dict_int, is_dict_bool, is_dict_tuple, is_dict_list, is_dict_str, R.all_ok, selE_t, selE_f, evB_at, evP_at, r_pass, r_set, r_own, r_frz, r_unp, r_par, r_app, r_popd, r_popa, r_swp, r_expr, r_ret, r_retm, r_retn, r_ifs, r_whl, r_fr, r_brk, r_cnt, r_raise, r_nil, e_var, e_lit, e_glo, e_u, e_b, e_isi, e_slc, e_rep, e_and, e_or, e_not, e_ite, e_chn, e_chn3, ch3_at, e_qcall, nox_ok, e_mth, e_mkx, mk_index, mk_join, mk_split, m_join, e_lrng, b_divm, e_tup, e_lst, e_call, e_comp, e_bor, e_d0, e_d1, e_pget, r_pput, u_max, u_min, e_oget, e_kin, e_kget, e_kgetd, e_klen, e_sset, e_sortk, r_kput, r_ins, r_ext, r_put, r_pop, e_rev, R.all_ask, es_nil, es_cons, eo_no, eo_yes, ei_seq, ei_rng, ei_zip, ei_enm, szle0, szlt0, szle1, szlt1, szle2, szlt2, szle3, szlt3, szle4, szlt4, szle5, szlt5, szle6, szlt6, szle7, szlt7, szle8, szlt8, szle9, szlt9, szle10, szlt10, szle11, szlt11, szle12, szlt12, szle13, szlt13, szle14, szlt14, szle15, szlt15, szle16, szlt16, szle17, szlt17, szle18, szlt18, szle19, szlt19, szle20, szlt20, szle21, szlt21, szle22, szlt22, szle23, szlt23, szle24, szlt24, szle25, szlt25, szle26, szlt26, szle27, szlt27, szle28, szlt28, szle29, szlt29, szle30, szlt30, Out.wp_nx, Out.wp_rt, Out.wp_bk, Out.wp_ct, eqS_int, isS_bl, R.bind_ok, R.out_ok, Sl.pd_v, Sl.pd_l, Sl.pd_k, List.set_cons_zero, List.set_cons_succ, List.getElem?_cons_zero, List.getElem?_cons_succ, List.getElem?_nil, Option.getD_some, Option.getD_none, if_true, Bool.false_eq_true, if_false, bt_nm, bt_tup, bt_lst, bts_nil, bts_cons, wipeE, start0, List.length_cons, List.length_nil, List.replicate, List.cons_append, List.nil_append, List.map_cons, List.map_nil, Nat.reduceAdd, Nat.reduceSub, Nat.zero_add, Bool.not_true, Bool.not_false, decide_true, decide_false, cg_nil, cg_cons, bls_nil, bls_cons, tst_at, cst_at, ch2_at, w_seq, w_sel, rest_nil, Out.wp_out, isB_ok, isI_ok, PD.flat, ne_eq, not_false_eq_true, Int.reduceEq, Int.reduceToNat, Int.reducePow, Int.reduceLT, Int.reduceLE, Int.reduceMul, Int.reduceAdd, Int.reduceSub, pow9, pow16, pow18, pow57, pow60, Sl.thaw])
  (refine Rest.mk ?_; simp only [asP_v, asP_l, asP_k, asB_ok, asI_ok, nox_ok, b_add, b_adds, b_addt, b_addl, b_sub, b_mul, b_fdiv, b_mod, b_pow, b_eq, b_ne, b_lt, b_le, b_gt, b_ge, b_is, b_isn, b_inn, b_nin, b_idxl, b_idxt, b_max, b_min, u_neg, u_lenl, u_lent, u_abs, u_int, u_intb, u_tupl, u_tupt, u_lstl, u_lstt, u_str, u_strs, u_all, u_any, u_sum, seq_l, seq_t, seq_s, sl_l, sl_t, sl_s, is_NoneType_int, is_NoneType_bool, is_NoneType_tuple, is_NoneType_list, is_NoneType_str, is_bool_int, is_bool_bool, is_bool_tuple, is_bool_list, is_bool_str, is_int_int, is_int_bool, is_int_tuple, is_int_list, is_int_str, is_str_int, is_str_bool, is_str_tuple, is_str_list, is_str_str, is_tuple_int, is_tuple_bool, is_tuple_tuple, is_tuple_list, is_tuple_str, is_list_int, is_list_bool, is_list_tuple, is_list_list, is_list_str, is_dict_int, is_dict_bool, is_dict_tuple, is_dict_list, is_dict_str, R.all_ok, selE_t, selE_f, evB_at, evP_at, r_pass, r_set, r_own, r_frz, r_unp, r_par, r_app, r_popd, r_popa, r_swp, r_expr, r_ret, r_retm, r_retn, r_ifs, r_whl, r_fr, r_brk, r_cnt, r_raise, r_nil, e_var, e_lit, e_glo, e_u, e_b, e_isi, e_slc, e_rep, e_and, e_or, e_not, e_ite, e_chn, e_chn3, ch3_at, e_qcall, nox_ok, e_mth, e_mkx, mk_index, mk_join, mk_split, m_join, e_lrng, b_divm, e_tup, e_lst, e_call, e_comp, e_bor, e_d0, e_d1, e_pget, r_pput, u_max, u_min, e_oget, e_kin, e_kget, e_kgetd, e_klen, e_sset, e_sortk, r_kput, r_ins, r_ext, r_put, r_pop, e_rev, R.all_ask, es_nil, es_cons, eo_no, eo_yes, ei_seq, ei_rng, ei_zip, ei_enm, szle0, szlt0, szle1, szlt1, szle2, szlt2, szle3, szlt3, szle4, szlt4, szle5, szlt5, szle6, szlt6, szle7, szlt7, szle8, szlt8, szle9, szlt9, szle10, szlt10, szle11, szlt11, szle12, szlt12, szle13, szlt13, szle14, szlt14, szle15, szlt15, szle16, szlt16, szle17, szlt17, szle18, szlt18, szle19, szlt19, szle20, szlt20, szle21, szlt21, szle22, szlt22, szle23, szlt23, szle24, szlt24, szle25, szlt25, szle26, szlt26, szle27, szlt27, szle28, szlt28, szle29, szlt29, szle30, szlt30, Out.wp_nx, Out.wp_rt, Out.wp_bk, Out.wp_ct, eqS_int, isS_bl, R.bind_ok, R.out_ok, Sl.pd_v, Sl.pd_l, Sl.pd_k, List.set_cons_zero, List.set_cons_succ, List.getElem?_cons_zero, List.getElem?_cons_succ, List.getElem?_nil, Option.getD_some, Option.getD_none, if_true, Bool.false_eq_true, if_false, bt_nm, bt_tup, bt_lst, bts_nil, bts_cons, wipeE, start0, List.length_cons, List.length_nil, List.replicate, List.cons_append, List.nil_append, List.map_cons, List.map_nil, Nat.reduceAdd, Nat.reduceSub, Nat.zero_add, Bool.not_true, Bool.not_false, decide_true, decide_false, cg_nil, cg_cons, bls_nil, bls_cons, tst_at, cst_at, ch2_at, w_seq, w_sel, rest_nil, Out.wp_out, isB_ok, isI_ok, PD.flat, ne_eq, not_false_eq_true, Int.reduceEq, Int.reduceToNat, Int.reducePow, Int.reduceLT, Int.reduceLE, Int.reduceMul, Int.reduceAdd, Int.reduceSub, pow9, pow16, pow18, pow57, pow60])
  refine hP ks rs ⟨hk, fun x hx => ?_, fun x hx => ?_⟩
  · obtain ⟨_, _, z⟩ := qm x (hm x hx)
    omega
  · obtain ⟨_, _, z⟩ := q2 x hx
    omega
theorem loop_bent {ms rs : List Int} (h : RwOk ms rs) (p : Int) (hp : p = rs.length) (o0 o1 o2 : PD) :
    ∃ ms', runW (evB g_law_bent (.bor (.and (.b .gt (.u .len (.var 3)) (.var 4)) (.b .eq (.b .idx (.var 3) (.u .neg (.lit (.int 1)))) (.b .add (.b .idx (.var 3) (.b .sub (.u .neg (.lit (.int 1))) (.var 4))) (.b .idx (.var 5) (.b .mod (.b .sub (.u .len (.var 3)) (.lit (.int 1))) (.var 4)))))))) (FS.run g_law_bent w_law_bent_0) (fuel_law_bent_0 [some (.v o0), some (.v o1), some (.v o2), some (.l (ms.map PD.int)), some (.v (.int p)), some (.v (.tup (rs.map PD.int)))]) [some (.v o0), some (.v o1), some (.v o2), some (.l (ms.map PD.int)), some (.v (.int p)), some (.v (.tup (rs.map PD.int)))] = .nx [some (.v o0), some (.v o1), some (.v o2), some (.l (ms'.map PD.int)), some (.v (.int p)), some (.v (.tup (rs.map PD.int)))] ∧ RwOk ms' rs ∧ ms'.length ≤ ms.length ∧ ∀ x ∈ ms', x ∈ ms := by
  have hp1 := h.p1
  have hp2 := h.p2
  have pn : ¬ (p = 0) := by omega
  have H : ∃ ρ', runW (evB g_law_bent (.bor (.and (.b .gt (.u .len (.var 3)) (.var 4)) (.b .eq (.b .idx (.var 3) (.u .neg (.lit (.int 1)))) (.b .add (.b .idx (.var 3) (.b .sub (.u .neg (.lit (.int 1))) (.var 4))) (.b .idx (.var 5) (.b .mod (.b .sub (.u .len (.var 3)) (.lit (.int 1))) (.var 4)))))))) (FS.run g_law_bent w_law_bent_0) (fuel_law_bent_0 [some (.v o0), some (.v o1), some (.v o2), some (.l (ms.map PD.int)), some (.v (.int p)), some (.v (.tup (rs.map PD.int)))]) [some (.v o0), some (.v o1), some (.v o2), some (.l (ms.map PD.int)), some (.v (.int p)), some (.v (.tup (rs.map PD.int)))] = .nx ρ' ∧ ∃ ms', ρ' = [some (.v o0), some (.v o1), some (.v o2), some (.l (ms'.map PD.int)), some (.v (.int p)), some (.v (.tup (rs.map PD.int)))] ∧ RwOk ms' rs ∧ ms'.length ≤ ms.length ∧ ∀ x ∈ ms', x ∈ ms := by
    refine runW_nx (fun n ρ => ∃ ms', ρ = [some (.v o0), some (.v o1), some (.v o2), some (.l (ms'.map PD.int)), some (.v (.int p)), some (.v (.tup (rs.map PD.int)))] ∧ (RwOk ms' rs ∧ ms'.length ≤ ms.length ∧ ∀ x ∈ ms', x ∈ ms) ∧ n = ms'.length) _ ?_ ⟨ms, rfl, ⟨h, Nat.le_refl _, fun _ hx => hx⟩, rfl⟩ ?_
    · rintro n ρ ⟨ks, rfl, ⟨hk, hkl, hkm⟩, rfl⟩
      have l1 := hk.l1
      have l2 := hk.l2
      have neg1 : (-(1 : Int)) = -1 := rfl
      by_cases c : p < ks.length
      · obtain ⟨x1, a1⟩ := at_neg (ns := ks) (i := -1) (by omega) (by omega)
        obtain ⟨x2, a2⟩ := at_neg (ns := ks) (i := -1 - p) (by omega) (by omega)
        obtain ⟨r0, r1⟩ := fmod_range (i := (ks.length : Int) - 1) (m := p) (by omega)
        obtain ⟨x3, _, _, a3⟩ := at_ints (ns := rs) r0 (by omega)
        by_cases d : x1 = x2 + x3
        · left
          refine ⟨?_, ks.length - 1, [some (.v o0), some (.v o1), some (.v o2), some (.l (ks.dropLast.map PD.int)), some (.v (.int p)), some (.v (.tup (rs.map PD.int)))], by omega, .inl ?_, ks.dropLast.length, by rw [List.length_dropLast]; exact Nat.le_refl _, ks.dropLast, rfl, ⟨⟨hk.p1, hk.p2, by rw [List.length_dropLast]; omega, by rw [List.length_dropLast]; omega⟩, by rw [List.length_dropLast]; omega, fun x hx => hkm x ((List.dropLast_sublist ks).subset hx)⟩, rfl⟩
          · simp only [asP_v, asP_l, asP_k, asB_ok, asI_ok, nox_ok, b_add, b_adds, b_addt, b_addl, b_sub, b_mul, b_fdiv, b_mod, b_pow, b_eq, b_ne, b_lt, b_le, b_gt, b_ge, b_is, b_isn, b_inn, b_nin, b_idxl, b_idxt, b_max, b_min, u_neg, u_lenl, u_lent, u_abs, u_int, u_intb, u_tupl, u_tupt, u_lstl, u_lstt, u_str, u_strs, u_all, u_any, u_sum, seq_l, seq_t, seq_s, sl_l, sl_t, sl_s, is_NoneType_int, is_NoneType_bool, is_NoneType_tuple, is_NoneType_list, is_NoneType_str, is_bool_int, is_bool_bool, is_bool_tuple, is_bool_list, is_bool_str, is_int_int, is_int_bool, is_int_tuple, is_int_list, is_int_str, is_str_int, is_str_bool, is_str_tuple, is_str_list, is_str_str, is_tuple_int, is_tuple_bool, is_tuple_tuple, is_tuple_list, is_tuple_str, is_list_int, is_list_bool, is_list_tuple, is_list_list, is_list_str, is_dict_int, is_dict_bool, is_dict_tuple, is_dict_list, is_dict_str, selE_t, selE_f, evB_at, evP_at, r_pass, r_set, r_own, r_frz, r_unp, r_par, r_app, r_popd, r_popa, r_swp, r_expr, r_ret, r_retm, r_retn, r_ifs, r_whl, r_fr, r_brk, r_cnt, r_raise, r_nil, e_var, e_lit, e_glo, e_u, e_b, e_isi, e_slc, e_rep, e_and, e_or, e_not, e_ite, e_chn, e_chn3, ch3_at, e_qcall, nox_ok, e_mth, e_mkx, mk_index, mk_join, mk_split, m_join, e_lrng, b_divm, e_tup, e_lst, e_call, e_comp, e_bor, e_d0, e_d1, e_pget, r_pput, u_max, u_min, e_oget, e_kin, e_kget, e_kgetd, e_klen, e_sset, e_sortk, r_kput, r_ins, r_ext, r_put, r_pop, e_rev, es_nil, es_cons, eo_no, eo_yes, ei_seq, ei_rng, ei_zip, ei_enm, szle0, szlt0, szle1, szlt1, szle2, szlt2, szle3, szlt3, szle4, szlt4, szle5, szlt5, szle6, szlt6, szle7, szlt7, szle8, szlt8, szle9, szlt9, szle10, szlt10, szle11, szlt11, szle12, szlt12, szle13, szlt13, szle14, szlt14, szle15, szlt15, szle16, szlt16, szle17, szlt17, szle18, szlt18, szle19, szlt19, szle20, szlt20, szle21, szlt21, szle22, szlt22, szle23, szlt23, szle24, szlt24, szle25, szlt25, szle26, szlt26, szle27, szlt27, szle28, szlt28, szle29, szlt29, szle30, szlt30, eqS_int, isS_bl, R.bind_ok, R.out_ok, Sl.pd_v, Sl.pd_l, Sl.pd_k, List.set_cons_zero, List.set_cons_succ, List.getElem?_cons_zero, List.getElem?_cons_succ, List.getElem?_nil, Option.getD_some, Option.getD_none, if_true, Bool.false_eq_true, if_false, bt_nm, bt_tup, bt_lst, bts_nil, bts_cons, wipeE, start0, List.length_cons, List.length_nil, List.replicate, List.cons_append, List.nil_append, List.map_cons, List.map_nil, Nat.reduceAdd, Nat.reduceSub, Nat.zero_add, Bool.not_true, Bool.not_false, decide_true, decide_false, cg_nil, cg_cons, bls_nil, bls_cons, tst_at, cst_at, ch2_at, isB_ok, isI_ok, PD.flat, ne_eq, not_false_eq_true, Int.reduceEq, Int.reduceToNat, Int.reducePow, Int.reduceLT, Int.reduceLE, Int.reduceMul, Int.reduceAdd, Int.reduceSub, pow9, pow16, pow18, pow57, pow60, r_seq, go_nx, go_ct, go_bk, go_rt, go_ex, sel_t, sel_f, res_rt, res_nx, res_ex, R.bind_ex, R.out_ex, r_raise, r_tryc, r_tryn, ca_ex, ca_nx, ca_rt, thaw, Option.map_some, Option.map_none, Sl.thaw, List.length_map, c, neg1, a1, a2, a3, pn, d, PD.flat]
          · have gl : (ks.map PD.int).getLast? = some (.int (ks.getLast (by intro e; rw [e] at c; simp at c; omega))) := by rw [List.getLast?_map, List.getLast?_eq_some_getLast]; rfl
            simp only [asP_v, asP_l, asP_k, asB_ok, asI_ok, nox_ok, b_add, b_adds, b_addt, b_addl, b_sub, b_mul, b_fdiv, b_mod, b_pow, b_eq, b_ne, b_lt, b_le, b_gt, b_ge, b_is, b_isn, b_inn, b_nin, b_idxl, b_idxt, b_max, b_min, u_neg, u_lenl, u_lent, u_abs, u_int, u_intb, u_tupl, u_tupt, u_lstl, u_lstt, u_str, u_strs, u_all, u_any, u_sum, seq_l, seq_t, seq_s, sl_l, sl_t, sl_s, is_NoneType_int, is_NoneType_bool, is_NoneType_tuple, is_NoneType_list, is_NoneType_str, is_bool_int, is_bool_bool, is_bool_tuple, is_bool_list, is_bool_str, is_int_int, is_int_bool, is_int_tuple, is_int_list, is_int_str, is_str_int, is_str_bool, is_str_tuple, is_str_list, is_str_str, is_tuple_int, is_tuple_bool, is_tuple_tuple, is_tuple_list, is_tuple_str, is_list_int, is_list_bool, is_list_tuple, is_list_list, is_list_str, is_dict_int, is_dict_bool, is_dict_tuple, is_dict_list, is_dict_str, selE_t, selE_f, evB_at, evP_at, r_pass, r_set, r_own, r_frz, r_unp, r_par, r_app, r_popd, r_popa, r_swp, r_expr, r_ret, r_retm, r_retn, r_ifs, r_whl, r_fr, r_brk, r_cnt, r_raise, r_nil, e_var, e_lit, e_glo, e_u, e_b, e_isi, e_slc, e_rep, e_and, e_or, e_not, e_ite, e_chn, e_chn3, ch3_at, e_qcall, nox_ok, e_mth, e_mkx, mk_index, mk_join, mk_split, m_join, e_lrng, b_divm, e_tup, e_lst, e_call, e_comp, e_bor, e_d0, e_d1, e_pget, r_pput, u_max, u_min, e_oget, e_kin, e_kget, e_kgetd, e_klen, e_sset, e_sortk, r_kput, r_ins, r_ext, r_put, r_pop, e_rev, es_nil, es_cons, eo_no, eo_yes, ei_seq, ei_rng, ei_zip, ei_enm, szle0, szlt0, szle1, szlt1, szle2, szlt2, szle3, szlt3, szle4, szlt4, szle5, szlt5, szle6, szlt6, szle7, szlt7, szle8, szlt8, szle9, szlt9, szle10, szlt10, szle11, szlt11, szle12, szlt12, szle13, szlt13, szle14, szlt14, szle15, szlt15, szle16, szlt16, szle17, szlt17, szle18, szlt18, szle19, szlt19, szle20, szlt20, szle21, szlt21, szle22, szlt22, szle23, szlt23, szle24, szlt24, szle25, szlt25, szle26, szlt26, szle27, szlt27, szle28, szlt28, szle29, szlt29, szle30, szlt30, eqS_int, isS_bl, R.bind_ok, R.out_ok, Sl.pd_v, Sl.pd_l, Sl.pd_k, List.set_cons_zero, List.set_cons_succ, List.getElem?_cons_zero, List.getElem?_cons_succ, List.getElem?_nil, Option.getD_some, Option.getD_none, if_true, Bool.false_eq_true, if_false, bt_nm, bt_tup, bt_lst, bts_nil, bts_cons, wipeE, start0, List.length_cons, List.length_nil, List.replicate, List.cons_append, List.nil_append, List.map_cons, List.map_nil, Nat.reduceAdd, Nat.reduceSub, Nat.zero_add, Bool.not_true, Bool.not_false, decide_true, decide_false, cg_nil, cg_cons, bls_nil, bls_cons, tst_at, cst_at, ch2_at, isB_ok, isI_ok, PD.flat, ne_eq, not_false_eq_true, Int.reduceEq, Int.reduceToNat, Int.reducePow, Int.reduceLT, Int.reduceLE, Int.reduceMul, Int.reduceAdd, Int.reduceSub, pow9, pow16, pow18, pow57, pow60, r_seq, go_nx, go_ct, go_bk, go_rt, go_ex, sel_t, sel_f, res_rt, res_nx, res_ex, R.bind_ex, R.out_ex, r_raise, r_tryc, r_tryn, ca_ex, ca_nx, ca_rt, w_law_bent_0, gl, List.map_dropLast]
        · right
          exact ⟨by simp only [asP_v, asP_l, asP_k, asB_ok, asI_ok, nox_ok, b_add, b_adds, b_addt, b_addl, b_sub, b_mul, b_fdiv, b_mod, b_pow, b_eq, b_ne, b_lt, b_le, b_gt, b_ge, b_is, b_isn, b_inn, b_nin, b_idxl, b_idxt, b_max, b_min, u_neg, u_lenl, u_lent, u_abs, u_int, u_intb, u_tupl, u_tupt, u_lstl, u_lstt, u_str, u_strs, u_all, u_any, u_sum, seq_l, seq_t, seq_s, sl_l, sl_t, sl_s, is_NoneType_int, is_NoneType_bool, is_NoneType_tuple, is_NoneType_list, is_NoneType_str, is_bool_int, is_bool_bool, is_bool_tuple, is_bool_list, is_bool_str, is_int_int, is_int_bool, is_int_tuple, is_int_list, is_int_str, is_str_int, is_str_bool, is_str_tuple, is_str_list, is_str_str, is_tuple_int, is_tuple_bool, is_tuple_tuple, is_tuple_list, is_tuple_str, is_list_int, is_list_bool, is_list_tuple, is_list_list, is_list_str, is_dict_int, is_dict_bool, is_dict_tuple, is_dict_list, is_dict_str, selE_t, selE_f, evB_at, evP_at, r_pass, r_set, r_own, r_frz, r_unp, r_par, r_app, r_popd, r_popa, r_swp, r_expr, r_ret, r_retm, r_retn, r_ifs, r_whl, r_fr, r_brk, r_cnt, r_raise, r_nil, e_var, e_lit, e_glo, e_u, e_b, e_isi, e_slc, e_rep, e_and, e_or, e_not, e_ite, e_chn, e_chn3, ch3_at, e_qcall, nox_ok, e_mth, e_mkx, mk_index, mk_join, mk_split, m_join, e_lrng, b_divm, e_tup, e_lst, e_call, e_comp, e_bor, e_d0, e_d1, e_pget, r_pput, u_max, u_min, e_oget, e_kin, e_kget, e_kgetd, e_klen, e_sset, e_sortk, r_kput, r_ins, r_ext, r_put, r_pop, e_rev, es_nil, es_cons, eo_no, eo_yes, ei_seq, ei_rng, ei_zip, ei_enm, szle0, szlt0, szle1, szlt1, szle2, szlt2, szle3, szlt3, szle4, szlt4, szle5, szlt5, szle6, szlt6, szle7, szlt7, szle8, szlt8, szle9, szlt9, szle10, szlt10, szle11, szlt11, szle12, szlt12, szle13, szlt13, szle14, szlt14, szle15, szlt15, szle16, szlt16, szle17, szlt17, szle18, szlt18, szle19, szlt19, szle20, szlt20, szle21, szlt21, szle22, szlt22, szle23, szlt23, szle24, szlt24, szle25, szlt25, szle26, szlt26, szle27, szlt27, szle28, szlt28, szle29, szlt29, szle30, szlt30, eqS_int, isS_bl, R.bind_ok, R.out_ok, Sl.pd_v, Sl.pd_l, Sl.pd_k, List.set_cons_zero, List.set_cons_succ, List.getElem?_cons_zero, List.getElem?_cons_succ, List.getElem?_nil, Option.getD_some, Option.getD_none, if_true, Bool.false_eq_true, if_false, bt_nm, bt_tup, bt_lst, bts_nil, bts_cons, wipeE, start0, List.length_cons, List.length_nil, List.replicate, List.cons_append, List.nil_append, List.map_cons, List.map_nil, Nat.reduceAdd, Nat.reduceSub, Nat.zero_add, Bool.not_true, Bool.not_false, decide_true, decide_false, cg_nil, cg_cons, bls_nil, bls_cons, tst_at, cst_at, ch2_at, isB_ok, isI_ok, PD.flat, ne_eq, not_false_eq_true, Int.reduceEq, Int.reduceToNat, Int.reducePow, Int.reduceLT, Int.reduceLE, Int.reduceMul, Int.reduceAdd, Int.reduceSub, pow9, pow16, pow18, pow57, pow60, r_seq, go_nx, go_ct, go_bk, go_rt, go_ex, sel_t, sel_f, res_rt, res_nx, res_ex, R.bind_ex, R.out_ex, r_raise, r_tryc, r_tryn, ca_ex, ca_nx, ca_rt, thaw, Option.map_some, Option.map_none, Sl.thaw, List.length_map, c, neg1, a1, a2, a3, pn, d, PD.flat], ks, rfl, hk, hkl, hkm⟩
      · right
        exact ⟨by simp only [asP_v, asP_l, asP_k, asB_ok, asI_ok, nox_ok, b_add, b_adds, b_addt, b_addl, b_sub, b_mul, b_fdiv, b_mod, b_pow, b_eq, b_ne, b_lt, b_le, b_gt, b_ge, b_is, b_isn, b_inn, b_nin, b_idxl, b_idxt, b_max, b_min, u_neg, u_lenl, u_lent, u_abs, u_int, u_intb, u_tupl, u_tupt, u_lstl, u_lstt, u_str, u_strs, u_all, u_any, u_sum, seq_l, seq_t, seq_s, sl_l, sl_t, sl_s, is_NoneType_int, is_NoneType_bool, is_NoneType_tuple, is_NoneType_list, is_NoneType_str, is_bool_int, is_bool_bool, is_bool_tuple, is_bool_list, is_bool_str, is_int_int, is_int_bool, is_int_tuple, is_int_list, is_int_str, is_str_int, is_str_bool, is_str_tuple, is_str_list, is_str_str, is_tuple_int, is_tuple_bool, is_tuple_tuple, is_tuple_list, is_tuple_str, is_list_int, is_list_bool, is_list_tuple, is_list_list, is_list_str, is_dict_int, is_dict_bool, is_dict_tuple, is_dict_list, is_dict_str, selE_t, selE_f, evB_at, evP_at, r_pass, r_set, r_own, r_frz, r_unp, r_par, r_app, r_popd, r_popa, r_swp, r_expr, r_ret, r_retm, r_retn, r_ifs, r_whl, r_fr, r_brk, r_cnt, r_raise, r_nil, e_var, e_lit, e_glo, e_u, e_b, e_isi, e_slc, e_rep, e_and, e_or, e_not, e_ite, e_chn, e_chn3, ch3_at, e_qcall, nox_ok, e_mth, e_mkx, mk_index, mk_join, mk_split, m_join, e_lrng, b_divm, e_tup, e_lst, e_call, e_comp, e_bor, e_d0, e_d1, e_pget, r_pput, u_max, u_min, e_oget, e_kin, e_kget, e_kgetd, e_klen, e_sset, e_sortk, r_kput, r_ins, r_ext, r_put, r_pop, e_rev, es_nil, es_cons, eo_no, eo_yes, ei_seq, ei_rng, ei_zip, ei_enm, szle0, szlt0, szle1, szlt1, szle2, szlt2, szle3, szlt3, szle4, szlt4, szle5, szlt5, szle6, szlt6, szle7, szlt7, szle8, szlt8, szle9, szlt9, szle10, szlt10, szle11, szlt11, szle12, szlt12, szle13, szlt13, szle14, szlt14, szle15, szlt15, szle16, szlt16, szle17, szlt17, szle18, szlt18, szle19, szlt19, szle20, szlt20, szle21, szlt21, szle22, szlt22, szle23, szlt23, szle24, szlt24, szle25, szlt25, szle26, szlt26, szle27, szlt27, szle28, szlt28, szle29, szlt29, szle30, szlt30, eqS_int, isS_bl, R.bind_ok, R.out_ok, Sl.pd_v, Sl.pd_l, Sl.pd_k, List.set_cons_zero, List.set_cons_succ, List.getElem?_cons_zero, List.getElem?_cons_succ, List.getElem?_nil, Option.getD_some, Option.getD_none, if_true, Bool.false_eq_true, if_false, bt_nm, bt_tup, bt_lst, bts_nil, bts_cons, wipeE, start0, List.length_cons, List.length_nil, List.replicate, List.cons_append, List.nil_append, List.map_cons, List.map_nil, Nat.reduceAdd, Nat.reduceSub, Nat.zero_add, Bool.not_true, Bool.not_false, decide_true, decide_false, cg_nil, cg_cons, bls_nil, bls_cons, tst_at, cst_at, ch2_at, isB_ok, isI_ok, PD.flat, ne_eq, not_false_eq_true, Int.reduceEq, Int.reduceToNat, Int.reducePow, Int.reduceLT, Int.reduceLE, Int.reduceMul, Int.reduceAdd, Int.reduceSub, pow9, pow16, pow18, pow57, pow60, r_seq, go_nx, go_ct, go_bk, go_rt, go_ex, sel_t, sel_f, res_rt, res_nx, res_ex, R.bind_ex, R.out_ex, r_raise, r_tryc, r_tryn, ca_ex, ca_nx, ca_rt, thaw, Option.map_some, Option.map_none, Sl.thaw, List.length_map, c, PD.flat], ks, rfl, hk, hkl, hkm⟩
    · simp only [fuel_law_bent_0, slotL, asP_v, asP_l, asP_k, asB_ok, asI_ok, nox_ok, b_add, b_adds, b_addt, b_addl, b_sub, b_mul, b_fdiv, b_mod, b_pow, b_eq, b_ne, b_lt, b_le, b_gt, b_ge, b_is, b_isn, b_inn, b_nin, b_idxl, b_idxt, b_max, b_min, u_neg, u_lenl, u_lent, u_abs, u_int, u_intb, u_tupl, u_tupt, u_lstl, u_lstt, u_str, u_strs, u_all, u_any, u_sum, seq_l, seq_t, seq_s, sl_l, sl_t, sl_s, is_NoneType_int, is_NoneType_bool, is_NoneType_tuple, is_NoneType_list, is_NoneType_str, is_bool_int, is_bool_bool, is_bool_tuple, is_bool_list, is_bool_str, is_int_int, is_int_bool, is_int_tuple, is_int_list, is_int_str, is_str_int, is_str_bool, is_str_tuple, is_str_list, is_str_str, is_tuple_int, is_tuple_bool, is_tuple_tuple, is_tuple_list, is_tuple_str, is_list_int, is_list_bool, is_list_tuple, is_list_list, is_list_str, is_dict_int, is_dict_bool, is_dict_tuple, is_dict_list, is_dict_str, selE_t, selE_f, evB_at, evP_at, r_pass, r_set, r_own, r_frz, r_unp, r_par, r_app, r_popd, r_popa, r_swp, r_expr, r_ret, r_retm, r_retn, r_ifs, r_whl, r_fr, r_brk, r_cnt, r_raise, r_nil, e_var, e_lit, e_glo, e_u, e_b, e_isi, e_slc, e_rep, e_and, e_or, e_not, e_ite, e_chn, e_chn3, ch3_at, e_qcall, nox_ok, e_mth, e_mkx, mk_index, mk_join, mk_split, m_join, e_lrng, b_divm, e_tup, e_lst, e_call, e_comp, e_bor, e_d0, e_d1, e_pget, r_pput, u_max, u_min, e_oget, e_kin, e_kget, e_kgetd, e_klen, e_sset, e_sortk, r_kput, r_ins, r_ext, r_put, r_pop, e_rev, es_nil, es_cons, eo_no, eo_yes, ei_seq, ei_rng, ei_zip, ei_enm, szle0, szlt0, szle1, szlt1, szle2, szlt2, szle3, szlt3, szle4, szlt4, szle5, szlt5, szle6, szlt6, szle7, szlt7, szle8, szlt8, szle9, szlt9, szle10, szlt10, szle11, szlt11, szle12, szlt12, szle13, szlt13, szle14, szlt14, szle15, szlt15, szle16, szlt16, szle17, szlt17, szle18, szlt18, szle19, szlt19, szle20, szlt20, szle21, szlt21, szle22, szlt22, szle23, szlt23, szle24, szlt24, szle25, szlt25, szle26, szlt26, szle27, szlt27, szle28, szlt28, szle29, szlt29, szle30, szlt30, eqS_int, isS_bl, R.bind_ok, R.out_ok, Sl.pd_v, Sl.pd_l, Sl.pd_k, List.set_cons_zero, List.set_cons_succ, List.getElem?_cons_zero, List.getElem?_cons_succ, List.getElem?_nil, Option.getD_some, Option.getD_none, if_true, Bool.false_eq_true, if_false, bt_nm, bt_tup, bt_lst, bts_nil, bts_cons, wipeE, start0, List.length_cons, List.length_nil, List.replicate, List.cons_append, List.nil_append, List.map_cons, List.map_nil, Nat.reduceAdd, Nat.reduceSub, Nat.zero_add, Bool.not_true, Bool.not_false, decide_true, decide_false, cg_nil, cg_cons, bls_nil, bls_cons, tst_at, cst_at, ch2_at, isB_ok, isI_ok, PD.flat, ne_eq, not_false_eq_true, Int.reduceEq, Int.reduceToNat, Int.reducePow, Int.reduceLT, Int.reduceLE, Int.reduceMul, Int.reduceAdd, Int.reduceSub, pow9, pow16, pow18, pow57, pow60, r_seq, go_nx, go_ct, go_bk, go_rt, go_ex, sel_t, sel_f, res_rt, res_nx, res_ex, R.bind_ex, R.out_ex, r_raise, r_tryc, r_tryn, ca_ex, ca_nx, ca_rt, List.length_map]; omega
  obtain ⟨ρ', e, ms', rfl, h', hl⟩ := H
  exact ⟨ms', e, h', hl⟩
theorem bent_all {ms rs : List Int} (hb : RwB ms rs) (P : Sl → Prop) (hP : ∀ ks, RwOk ks rs → (∀ x ∈ ks, x.natAbs < 4000001) → P (.v (Row ks rs))) : (d_law_bent [.pot, Row ms rs]).All P := by
  have h := hb.ok
  have hp1 := h.p1
  have hp2 := h.p2
  have hl1 := h.l1
  have hl2 := h.l2
  have zz : ∀ n : Nat, n ≤ 100 → (n ≤ sizeLine) = True := fun n hn => eq_true (by rw [sizeLine_eq]; omega)
  rw [q_law_bent]
  refine den_all rfl ?_
  simp only [asP_v, asP_l, asP_k, asB_ok, asI_ok, nox_ok, b_add, b_adds, b_addt, b_addl, b_sub, b_mul, b_fdiv, b_mod, b_pow, b_eq, b_ne, b_lt, b_le, b_gt, b_ge, b_is, b_isn, b_inn, b_nin, b_idxl, b_idxt, b_max, b_min, u_neg, u_lenl, u_lent, u_abs, u_int, u_intb, u_tupl, u_tupt, u_lstl, u_lstt, u_str, u_strs, u_all, u_any, u_sum, seq_l, seq_t, seq_s, sl_l, sl_t, sl_s, is_NoneType_int, is_NoneType_bool, is_NoneType_tuple, is_NoneType_list, is_NoneType_str, is_bool_int, is_bool_bool, is_bool_tuple, is_bool_list, is_bool_str, is_int_int, is_int_bool, is_int_tuple, is_int_list, is_int_str, is_str_int, is_str_bool, is_str_tuple, is_str_list, is_str_str, is_tuple_int, is_tuple_bool, is_tuple_tuple, is_tuple_list, is_tuple_str, is_list_int, is_list_bool, is_list_tuple, is_list_list, is_list_str, is_dict_int, is_dict_bool, is_dict_tuple, is_dict_list, is_dict_str, R.all_ok, selE_t, selE_f, evB_at, evP_at, r_pass, r_set, r_own, r_frz, r_unp, r_par, r_app, r_popd, r_popa, r_swp, r_expr, r_ret, r_retm, r_retn, r_ifs, r_whl, r_fr, r_brk, r_cnt, r_raise, r_nil, e_var, e_lit, e_glo, e_u, e_b, e_isi, e_slc, e_rep, e_and, e_or, e_not, e_ite, e_chn, e_chn3, ch3_at, e_qcall, nox_ok, e_mth, e_mkx, mk_index, mk_join, mk_split, m_join, e_lrng, b_divm, e_tup, e_lst, e_call, e_comp, e_bor, e_d0, e_d1, e_pget, r_pput, u_max, u_min, e_oget, e_kin, e_kget, e_kgetd, e_klen, e_sset, e_sortk, r_kput, r_ins, r_ext, r_put, r_pop, e_rev, R.all_ask, es_nil, es_cons, eo_no, eo_yes, ei_seq, ei_rng, ei_zip, ei_enm, szle0, szlt0, szle1, szlt1, szle2, szlt2, szle3, szlt3, szle4, szlt4, szle5, szlt5, szle6, szlt6, szle7, szlt7, szle8, szlt8, szle9, szlt9, szle10, szlt10, szle11, szlt11, szle12, szlt12, szle13, szlt13, szle14, szlt14, szle15, szlt15, szle16, szlt16, szle17, szlt17, szle18, szlt18, szle19, szlt19, szle20, szlt20, szle21, szlt21, szle22, szlt22, szle23, szlt23, szle24, szlt24, szle25, szlt25, szle26, szlt26, szle27, szlt27, szle28, szlt28, szle29, szlt29, szle30, szlt30, Out.wp_nx, Out.wp_rt, Out.wp_bk, Out.wp_ct, eqS_int, isS_bl, R.bind_ok, R.out_ok, Sl.pd_v, Sl.pd_l, Sl.pd_k, List.set_cons_zero, List.set_cons_succ, List.getElem?_cons_zero, List.getElem?_cons_succ, List.getElem?_nil, Option.getD_some, Option.getD_none, if_true, Bool.false_eq_true, if_false, bt_nm, bt_tup, bt_lst, bts_nil, bts_cons, wipeE, start0, List.length_cons, List.length_nil, List.replicate, List.cons_append, List.nil_append, List.map_cons, List.map_nil, Nat.reduceAdd, Nat.reduceSub, Nat.zero_add, Bool.not_true, Bool.not_false, decide_true, decide_false, cg_nil, cg_cons, bls_nil, bls_cons, tst_at, cst_at, ch2_at, w_seq, w_sel, rest_nil, Out.wp_out, isB_ok, isI_ok, PD.flat, ne_eq, not_false_eq_true, Int.reduceEq, Int.reduceToNat, Int.reducePow, Int.reduceLT, Int.reduceLE, Int.reduceMul, Int.reduceAdd, Int.reduceSub, pow9, pow16, pow18, pow57, pow60, R.all_bind, R.all_nox, all_asP, all_asB, all_asI, b_law_bent, Row, tup_eq, gf_law_bent_0]
  (refine Rest.mk ?_; simp only [asP_v, asP_l, asP_k, asB_ok, asI_ok, nox_ok, b_add, b_adds, b_addt, b_addl, b_sub, b_mul, b_fdiv, b_mod, b_pow, b_eq, b_ne, b_lt, b_le, b_gt, b_ge, b_is, b_isn, b_inn, b_nin, b_idxl, b_idxt, b_max, b_min, u_neg, u_lenl, u_lent, u_abs, u_int, u_intb, u_tupl, u_tupt, u_lstl, u_lstt, u_str, u_strs, u_all, u_any, u_sum, seq_l, seq_t, seq_s, sl_l, sl_t, sl_s, is_NoneType_int, is_NoneType_bool, is_NoneType_tuple, is_NoneType_list, is_NoneType_str, is_bool_int, is_bool_bool, is_bool_tuple, is_bool_list, is_bool_str, is_int_int, is_int_bool, is_int_tuple, is_int_list, is_int_str, is_str_int, is_str_bool, is_str_tuple, is_str_list, is_str_str, is_tuple_int, is_tuple_bool, is_tuple_tuple, is_tuple_list, is_tuple_str, is_list_int, is_list_bool, is_list_tuple, is_list_list, is_list_str, is_dict_int, is_dict_bool, is_dict_tuple, is_dict_list, is_dict_str, R.all_ok, selE_t, selE_f, evB_at, evP_at, r_pass, r_set, r_own, r_frz, r_unp, r_par, r_app, r_popd, r_popa, r_swp, r_expr, r_ret, r_retm, r_retn, r_ifs, r_whl, r_fr, r_brk, r_cnt, r_raise, r_nil, e_var, e_lit, e_glo, e_u, e_b, e_isi, e_slc, e_rep, e_and, e_or, e_not, e_ite, e_chn, e_chn3, ch3_at, e_qcall, nox_ok, e_mth, e_mkx, mk_index, mk_join, mk_split, m_join, e_lrng, b_divm, e_tup, e_lst, e_call, e_comp, e_bor, e_d0, e_d1, e_pget, r_pput, u_max, u_min, e_oget, e_kin, e_kget, e_kgetd, e_klen, e_sset, e_sortk, r_kput, r_ins, r_ext, r_put, r_pop, e_rev, R.all_ask, es_nil, es_cons, eo_no, eo_yes, ei_seq, ei_rng, ei_zip, ei_enm, szle0, szlt0, szle1, szlt1, szle2, szlt2, szle3, szlt3, szle4, szlt4, szle5, szlt5, szle6, szlt6, szle7, szlt7, szle8, szlt8, szle9, szlt9, szle10, szlt10, szle11, szlt11, szle12, szlt12, szle13, szlt13, szle14, szlt14, szle15, szlt15, szle16, szlt16, szle17, szlt17, szle18, szlt18, szle19, szlt19, szle20, szlt20, szle21, szlt21, szle22, szlt22, szle23, szlt23, szle24, szlt24, szle25, szlt25, szle26, szlt26, szle27, szlt27, szle28, szlt28, szle29, szlt29, szle30, szlt30, Out.wp_nx, Out.wp_rt, Out.wp_bk, Out.wp_ct, eqS_int, isS_bl, R.bind_ok, R.out_ok, Sl.pd_v, Sl.pd_l, Sl.pd_k, List.set_cons_zero, List.set_cons_succ, List.getElem?_cons_zero, List.getElem?_cons_succ, List.getElem?_nil, Option.getD_some, Option.getD_none, if_true, Bool.false_eq_true, if_false, bt_nm, bt_tup, bt_lst, bts_nil, bts_cons, wipeE, start0, List.length_cons, List.length_nil, List.replicate, List.cons_append, List.nil_append, List.map_cons, List.map_nil, Nat.reduceAdd, Nat.reduceSub, Nat.zero_add, Bool.not_true, Bool.not_false, decide_true, decide_false, cg_nil, cg_cons, bls_nil, bls_cons, tst_at, cst_at, ch2_at, w_seq, w_sel, rest_nil, Out.wp_out, isB_ok, isI_ok, PD.flat, ne_eq, not_false_eq_true, Int.reduceEq, Int.reduceToNat, Int.reducePow, Int.reduceLT, Int.reduceLE, Int.reduceMul, Int.reduceAdd, Int.reduceSub, pow9, pow16, pow18, pow57, pow60, R.all_bind, R.all_nox, all_asP, all_asB, all_asI, gf_law_bent_0, List.length_map])
  refine take_all _ (by omega) (by omega) _ fun k k0 k1 => ?_
  obtain ⟨n, rfl⟩ : ∃ n : Nat, k = n := ⟨k.toNat, by omega⟩
  have hn : n < ms.length := by omega
  have c0 : cutP (ms.map PD.int) none (some (n : Int)) = (ms.take n).map PD.int := cut_take
  have c2 : cutP (ms.map PD.int) (some ((n : Int) + 1)) none = (ms.drop (n + 1)).map PD.int := cut_drop (k := n + 1)
  have am := at_D hn
  have z1 := zz ((ms.take n).length + 1) (by rw [List.length_take]; omega)
  have z2 := zz ((ms.take n).length + 1 + (ms.drop (n + 1)).length) (by rw [List.length_take, List.length_drop]; omega)
  obtain ⟨z, hz⟩ : ∃ z : Int, z = (n : Int) := ⟨_, rfl⟩
  rw [← hz] at c0 c2 am ⊢
  have hms : ∀ x ∈ ms.take n ++ [ms.getD n 0 + 1] ++ ms.drop (n + 1), x.natAbs < 4000001 := fun x hx => by
    rcases List.mem_append.mp hx with hx | hx
    · rcases List.mem_append.mp hx with hx | hx
      · have := hb.bm x (List.mem_of_mem_take hx)
        omega
      · rw [List.mem_singleton] at hx
        have : ms.getD n 0 ∈ ms := by
          rw [List.getD_eq_getElem?_getD, List.getElem?_eq_getElem hn]
          exact List.getElem_mem hn
        have := hb.bm _ this
        omega
    · have := hb.bm x (List.mem_of_mem_drop hx)
      omega
  have hlen : (ms.take n ++ [ms.getD n 0 + 1] ++ ms.drop (n + 1)).length = ms.length := by
    simp only [List.length_append, List.length_take, List.length_drop, List.length_cons, List.length_nil]; omega
  have em : (ms.take n).map PD.int ++ [PD.int (ms.getD n 0 + 1)] ++ (ms.drop (n + 1)).map PD.int = (ms.take n ++ [ms.getD n 0 + 1] ++ ms.drop (n + 1)).map PD.int := by
    simp only [List.map_append, List.map_cons, List.map_nil]
  obtain ⟨p, hp⟩ : ∃ p : Int, p = (rs.length : Int) := ⟨_, rfl⟩
  (refine Rest.mk ?_; simp only [asP_v, asP_l, asP_k, asB_ok, asI_ok, nox_ok, b_add, b_adds, b_addt, b_addl, b_sub, b_mul, b_fdiv, b_mod, b_pow, b_eq, b_ne, b_lt, b_le, b_gt, b_ge, b_is, b_isn, b_inn, b_nin, b_idxl, b_idxt, b_max, b_min, u_neg, u_lenl, u_lent, u_abs, u_int, u_intb, u_tupl, u_tupt, u_lstl, u_lstt, u_str, u_strs, u_all, u_any, u_sum, seq_l, seq_t, seq_s, sl_l, sl_t, sl_s, is_NoneType_int, is_NoneType_bool, is_NoneType_tuple, is_NoneType_list, is_NoneType_str, is_bool_int, is_bool_bool, is_bool_tuple, is_bool_list, is_bool_str, is_int_int, is_int_bool, is_int_tuple, is_int_list, is_int_str, is_str_int, is_str_bool, is_str_tuple, is_str_list, is_str_str, is_tuple_int, is_tuple_bool, is_tuple_tuple, is_tuple_list, is_tuple_str, is_list_int, is_list_bool, is_list_tuple, is_list_list, is_list_str, is_dict_int, is_dict_bool, is_dict_tuple, is_dict_list, is_dict_str, R.all_ok, selE_t, selE_f, evB_at, evP_at, r_pass, r_set, r_own, r_frz, r_unp, r_par, r_app, r_popd, r_popa, r_swp, r_expr, r_ret, r_retm, r_retn, r_ifs, r_whl, r_fr, r_brk, r_cnt, r_raise, r_nil, e_var, e_lit, e_glo, e_u, e_b, e_isi, e_slc, e_rep, e_and, e_or, e_not, e_ite, e_chn, e_chn3, ch3_at, e_qcall, nox_ok, e_mth, e_mkx, mk_index, mk_join, mk_split, m_join, e_lrng, b_divm, e_tup, e_lst, e_call, e_comp, e_bor, e_d0, e_d1, e_pget, r_pput, u_max, u_min, e_oget, e_kin, e_kget, e_kgetd, e_klen, e_sset, e_sortk, r_kput, r_ins, r_ext, r_put, r_pop, e_rev, R.all_ask, es_nil, es_cons, eo_no, eo_yes, ei_seq, ei_rng, ei_zip, ei_enm, szle0, szlt0, szle1, szlt1, szle2, szlt2, szle3, szlt3, szle4, szlt4, szle5, szlt5, szle6, szlt6, szle7, szlt7, szle8, szlt8, szle9, szlt9, szle10, szlt10, szle11, szlt11, szle12, szlt12, szle13, szlt13, szle14, szlt14, szle15, szlt15, szle16, szlt16, szle17, szlt17, szle18, szlt18, szle19, szlt19, szle20, szlt20, szle21, szlt21, szle22, szlt22, szle23, szlt23, szle24, szlt24, szle25, szlt25, szle26, szlt26, szle27, szlt27, szle28, szlt28, szle29, szlt29, szle30, szlt30, Out.wp_nx, Out.wp_rt, Out.wp_bk, Out.wp_ct, eqS_int, isS_bl, R.bind_ok, R.out_ok, Sl.pd_v, Sl.pd_l, Sl.pd_k, List.set_cons_zero, List.set_cons_succ, List.getElem?_cons_zero, List.getElem?_cons_succ, List.getElem?_nil, Option.getD_some, Option.getD_none, if_true, Bool.false_eq_true, if_false, bt_nm, bt_tup, bt_lst, bts_nil, bts_cons, wipeE, start0, List.length_cons, List.length_nil, List.replicate, List.cons_append, List.nil_append, List.map_cons, List.map_nil, Nat.reduceAdd, Nat.reduceSub, Nat.zero_add, Bool.not_true, Bool.not_false, decide_true, decide_false, cg_nil, cg_cons, bls_nil, bls_cons, tst_at, cst_at, ch2_at, w_seq, w_sel, rest_nil, Out.wp_out, isB_ok, isI_ok, PD.flat, ne_eq, not_false_eq_true, Int.reduceEq, Int.reduceToNat, Int.reducePow, Int.reduceLT, Int.reduceLE, Int.reduceMul, Int.reduceAdd, Int.reduceSub, pow9, pow16, pow18, pow57, pow60, c0, c2, am, z1, z2, List.length_map, List.length_append, em])
  generalize ms.take n ++ [ms.getD n 0 + 1] ++ ms.drop (n + 1) = L at *
  (refine Rest.mk ?_; simp only [asP_v, asP_l, asP_k, asB_ok, asI_ok, nox_ok, b_add, b_adds, b_addt, b_addl, b_sub, b_mul, b_fdiv, b_mod, b_pow, b_eq, b_ne, b_lt, b_le, b_gt, b_ge, b_is, b_isn, b_inn, b_nin, b_idxl, b_idxt, b_max, b_min, u_neg, u_lenl, u_lent, u_abs, u_int, u_intb, u_tupl, u_tupt, u_lstl, u_lstt, u_str, u_strs, u_all, u_any, u_sum, seq_l, seq_t, seq_s, sl_l, sl_t, sl_s, is_NoneType_int, is_NoneType_bool, is_NoneType_tuple, is_NoneType_list, is_NoneType_str, is_bool_int, is_bool_bool, is_bool_tuple, is_bool_list, is_bool_str, is_int_int, is_int_bool, is_int_tuple, is_int_list, is_int_str, is_str_int, is_str_bool, is_str_tuple, is_str_list, is_str_str, is_tuple_int, is_tuple_bool, is_tuple_tuple, is_tuple_list, is_tuple_str, is_list_int, is_list_bool, is_list_tuple, is_list_list, is_list_str, is_dict_int, is_dict_bool, is_dict_tuple, is_dict_list, is_dict_str, R.all_ok, selE_t, selE_f, evB_at, evP_at, r_pass, r_set, r_own, r_frz, r_unp, r_par, r_app, r_popd, r_popa, r_swp, r_expr, r_ret, r_retm, r_retn, r_ifs, r_whl, r_fr, r_brk, r_cnt, r_raise, r_nil, e_var, e_lit, e_glo, e_u, e_b, e_isi, e_slc, e_rep, e_and, e_or, e_not, e_ite, e_chn, e_chn3, ch3_at, e_qcall, nox_ok, e_mth, e_mkx, mk_index, mk_join, mk_split, m_join, e_lrng, b_divm, e_tup, e_lst, e_call, e_comp, e_bor, e_d0, e_d1, e_pget, r_pput, u_max, u_min, e_oget, e_kin, e_kget, e_kgetd, e_klen, e_sset, e_sortk, r_kput, r_ins, r_ext, r_put, r_pop, e_rev, R.all_ask, es_nil, es_cons, eo_no, eo_yes, ei_seq, ei_rng, ei_zip, ei_enm, szle0, szlt0, szle1, szlt1, szle2, szlt2, szle3, szlt3, szle4, szlt4, szle5, szlt5, szle6, szlt6, szle7, szlt7, szle8, szlt8, szle9, szlt9, szle10, szlt10, szle11, szlt11, szle12, szlt12, szle13, szlt13, szle14, szlt14, szle15, szlt15, szle16, szlt16, szle17, szlt17, szle18, szlt18, szle19, szlt19, szle20, szlt20, szle21, szlt21, szle22, szlt22, szle23, szlt23, szle24, szlt24, szle25, szlt25, szle26, szlt26, szle27, szlt27, szle28, szlt28, szle29, szlt29, szle30, szlt30, Out.wp_nx, Out.wp_rt, Out.wp_bk, Out.wp_ct, eqS_int, isS_bl, R.bind_ok, R.out_ok, Sl.pd_v, Sl.pd_l, Sl.pd_k, List.set_cons_zero, List.set_cons_succ, List.getElem?_cons_zero, List.getElem?_cons_succ, List.getElem?_nil, Option.getD_some, Option.getD_none, if_true, Bool.false_eq_true, if_false, bt_nm, bt_tup, bt_lst, bts_nil, bts_cons, wipeE, start0, List.length_cons, List.length_nil, List.replicate, List.cons_append, List.nil_append, List.map_cons, List.map_nil, Nat.reduceAdd, Nat.reduceSub, Nat.zero_add, Bool.not_true, Bool.not_false, decide_true, decide_false, cg_nil, cg_cons, bls_nil, bls_cons, tst_at, cst_at, ch2_at, w_seq, w_sel, rest_nil, Out.wp_out, isB_ok, isI_ok, PD.flat, ne_eq, not_false_eq_true, Int.reduceEq, Int.reduceToNat, Int.reducePow, Int.reduceLT, Int.reduceLE, Int.reduceMul, Int.reduceAdd, Int.reduceSub, pow9, pow16, pow18, pow57, pow60, List.length_map, ← hp])
  obtain ⟨ks, ek, hk, _, hm⟩ := loop_bent (ms := L) (rs := rs) ⟨hp1, hp2, by omega, by omega⟩ p hp .pot (.tup [.tup (ms.map PD.int), .tup (rs.map PD.int)]) (.int z)
  (refine Rest.mk ?_; simp only [asP_v, asP_l, asP_k, asB_ok, asI_ok, nox_ok, b_add, b_adds, b_addt, b_addl, b_sub, b_mul, b_fdiv, b_mod, b_pow, b_eq, b_ne, b_lt, b_le, b_gt, b_ge, b_is, b_isn, b_inn, b_nin, b_idxl, b_idxt, b_max, b_min, u_neg, u_lenl, u_lent, u_abs, u_int, u_intb, u_tupl, u_tupt, u_lstl, u_lstt, u_str, u_strs, u_all, u_any, u_sum, seq_l, seq_t, seq_s, sl_l, sl_t, sl_s, is_NoneType_int, is_NoneType_bool, is_NoneType_tuple, is_NoneType_list, is_NoneType_str, is_bool_int, is_bool_bool, is_bool_tuple, is_bool_list, is_bool_str, is_int_int, is_int_bool, is_int_tuple, is_int_list, is_int_str, is_str_int, is_str_bool, is_str_tuple, is_str_list, is_str_str, is_tuple_int, is_tuple_bool, is_tuple_tuple, is_tuple_list, is_tuple_str, is_list_int, is_list_bool, is_list_tuple, is_list_list, is_list_str, is_dict_int, is_dict_bool, is_dict_tuple, is_dict_list, is_dict_str, R.all_ok, selE_t, selE_f, evB_at, evP_at, r_pass, r_set, r_own, r_frz, r_unp, r_par, r_app, r_popd, r_popa, r_swp, r_expr, r_ret, r_retm, r_retn, r_ifs, r_whl, r_fr, r_brk, r_cnt, r_raise, r_nil, e_var, e_lit, e_glo, e_u, e_b, e_isi, e_slc, e_rep, e_and, e_or, e_not, e_ite, e_chn, e_chn3, ch3_at, e_qcall, nox_ok, e_mth, e_mkx, mk_index, mk_join, mk_split, m_join, e_lrng, b_divm, e_tup, e_lst, e_call, e_comp, e_bor, e_d0, e_d1, e_pget, r_pput, u_max, u_min, e_oget, e_kin, e_kget, e_kgetd, e_klen, e_sset, e_sortk, r_kput, r_ins, r_ext, r_put, r_pop, e_rev, R.all_ask, es_nil, es_cons, eo_no, eo_yes, ei_seq, ei_rng, ei_zip, ei_enm, szle0, szlt0, szle1, szlt1, szle2, szlt2, szle3, szlt3, szle4, szlt4, szle5, szlt5, szle6, szlt6, szle7, szlt7, szle8, szlt8, szle9, szlt9, szle10, szlt10, szle11, szlt11, szle12, szlt12, szle13, szlt13, szle14, szlt14, szle15, szlt15, szle16, szlt16, szle17, szlt17, szle18, szlt18, szle19, szlt19, szle20, szlt20, szle21, szlt21, szle22, szlt22, szle23, szlt23, szle24, szlt24, szle25, szlt25, szle26, szlt26, szle27, szlt27, szle28, szlt28, szle29, szlt29, szle30, szlt30, Out.wp_nx, Out.wp_rt, Out.wp_bk, Out.wp_ct, eqS_int, isS_bl, R.bind_ok, R.out_ok, Sl.pd_v, Sl.pd_l, Sl.pd_k, List.set_cons_zero, List.set_cons_succ, List.getElem?_cons_zero, List.getElem?_cons_succ, List.getElem?_nil, Option.getD_some, Option.getD_none, if_true, Bool.false_eq_true, if_false, bt_nm, bt_tup, bt_lst, bts_nil, bts_cons, wipeE, start0, List.length_cons, List.length_nil, List.replicate, List.cons_append, List.nil_append, List.map_cons, List.map_nil, Nat.reduceAdd, Nat.reduceSub, Nat.zero_add, Bool.not_true, Bool.not_false, decide_true, decide_false, cg_nil, cg_cons, bls_nil, bls_cons, tst_at, cst_at, ch2_at, w_seq, w_sel, rest_nil, Out.wp_out, isB_ok, isI_ok, PD.flat, ne_eq, not_false_eq_true, Int.reduceEq, Int.reduceToNat, Int.reducePow, Int.reduceLT, Int.reduceLE, Int.reduceMul, Int.reduceAdd, Int.reduceSub, pow9, pow16, pow18, pow57, pow60, ek])
  (refine Rest.mk ?_; simp only [asP_v, asP_l, asP_k, asB_ok, asI_ok, nox_ok, b_add, b_adds, b_addt, b_addl, b_sub, b_mul, b_fdiv, b_mod, b_pow, b_eq, b_ne, b_lt, b_le, b_gt, b_ge, b_is, b_isn, b_inn, b_nin, b_idxl, b_idxt, b_max, b_min, u_neg, u_lenl, u_lent, u_abs, u_int, u_intb, u_tupl, u_tupt, u_lstl, u_lstt, u_str, u_strs, u_all, u_any, u_sum, seq_l, seq_t, seq_s, sl_l, sl_t, sl_s, is_NoneType_int, is_NoneType_bool, is_NoneType_tuple, is_NoneType_list, is_NoneType_str, is_bool_int, is_bool_bool, is_bool_tuple, is_bool_list, is_bool_str, is_int_int, is_int_bool, is_int_tuple, is_int_list, is_int_str, is_str_int, is_str_bool, is_str_tuple, is_str_list, is_str_str, is_tuple_int, is_tuple_bool, is_tuple_tuple, is_tuple_list, is_tuple_str, is_list_int, is_list_bool, is_list_tuple, is_list_list, is_list_str, is_dict_int, is_dict_bool, is_dict_tuple, is_dict_list, is_dict_str, R.all_ok, selE_t, selE_f, evB_at, evP_at, r_pass, r_set, r_own, r_frz, r_unp, r_par, r_app, r_popd, r_popa, r_swp, r_expr, r_ret, r_retm, r_retn, r_ifs, r_whl, r_fr, r_brk, r_cnt, r_raise, r_nil, e_var, e_lit, e_glo, e_u, e_b, e_isi, e_slc, e_rep, e_and, e_or, e_not, e_ite, e_chn, e_chn3, ch3_at, e_qcall, nox_ok, e_mth, e_mkx, mk_index, mk_join, mk_split, m_join, e_lrng, b_divm, e_tup, e_lst, e_call, e_comp, e_bor, e_d0, e_d1, e_pget, r_pput, u_max, u_min, e_oget, e_kin, e_kget, e_kgetd, e_klen, e_sset, e_sortk, r_kput, r_ins, r_ext, r_put, r_pop, e_rev, R.all_ask, es_nil, es_cons, eo_no, eo_yes, ei_seq, ei_rng, ei_zip, ei_enm, szle0, szlt0, szle1, szlt1, szle2, szlt2, szle3, szlt3, szle4, szlt4, szle5, szlt5, szle6, szlt6, szle7, szlt7, szle8, szlt8, szle9, szlt9, szle10, szlt10, szle11, szlt11, szle12, szlt12, szle13, szlt13, szle14, szlt14, szle15, szlt15, szle16, szlt16, szle17, szlt17, szle18, szlt18, szle19, szlt19, szle20, szlt20, szle21, szlt21, szle22, szlt22, szle23, szlt23, szle24, szlt24, szle25, szlt25, szle26, szlt26, szle27, szlt27, szle28, szlt28, szle29, szlt29, szle30, szlt30, Out.wp_nx, Out.wp_rt, Out.wp_bk, Out.wp_ct, eqS_int, isS_bl, R.bind_ok, R.out_ok, Sl.pd_v, Sl.pd_l, Sl.pd_k, List.set_cons_zero, List.set_cons_succ, List.getElem?_cons_zero, List.getElem?_cons_succ, List.getElem?_nil, Option.getD_some, Option.getD_none, if_true, Bool.false_eq_true, if_false, bt_nm, bt_tup, bt_lst, bts_nil, bts_cons, wipeE, start0, List.length_cons, List.length_nil, List.replicate, List.cons_append, List.nil_append, List.map_cons, List.map_nil, Nat.reduceAdd, Nat.reduceSub, Nat.zero_add, Bool.not_true, Bool.not_false, decide_true, decide_false, cg_nil, cg_cons, bls_nil, bls_cons, tst_at, cst_at, ch2_at, w_seq, w_sel, rest_nil, Out.wp_out, isB_ok, isI_ok, PD.flat, ne_eq, not_false_eq_true, Int.reduceEq, Int.reduceToNat, Int.reducePow, Int.reduceLT, Int.reduceLE, Int.reduceMul, Int.reduceAdd, Int.reduceSub, pow9, pow16, pow18, pow57, pow60, Sl.thaw])
  (refine Rest.mk ?_; simp only [asP_v, asP_l, asP_k, asB_ok, asI_ok, nox_ok, b_add, b_adds, b_addt, b_addl, b_sub, b_mul, b_fdiv, b_mod, b_pow, b_eq, b_ne, b_lt, b_le, b_gt, b_ge, b_is, b_isn, b_inn, b_nin, b_idxl, b_idxt, b_max, b_min, u_neg, u_lenl, u_lent, u_abs, u_int, u_intb, u_tupl, u_tupt, u_lstl, u_lstt, u_str, u_strs, u_all, u_any, u_sum, seq_l, seq_t, seq_s, sl_l, sl_t, sl_s, is_NoneType_int, is_NoneType_bool, is_NoneType_tuple, is_NoneType_list, is_NoneType_str, is_bool_int, is_bool_bool, is_bool_tuple, is_bool_list, is_bool_str, is_int_int, is_int_bool, is_int_tuple, is_int_list, is_int_str, is_str_int, is_str_bool, is_str_tuple, is_str_list, is_str_str, is_tuple_int, is_tuple_bool, is_tuple_tuple, is_tuple_list, is_tuple_str, is_list_int, is_list_bool, is_list_tuple, is_list_list, is_list_str, is_dict_int, is_dict_bool, is_dict_tuple, is_dict_list, is_dict_str, R.all_ok, selE_t, selE_f, evB_at, evP_at, r_pass, r_set, r_own, r_frz, r_unp, r_par, r_app, r_popd, r_popa, r_swp, r_expr, r_ret, r_retm, r_retn, r_ifs, r_whl, r_fr, r_brk, r_cnt, r_raise, r_nil, e_var, e_lit, e_glo, e_u, e_b, e_isi, e_slc, e_rep, e_and, e_or, e_not, e_ite, e_chn, e_chn3, ch3_at, e_qcall, nox_ok, e_mth, e_mkx, mk_index, mk_join, mk_split, m_join, e_lrng, b_divm, e_tup, e_lst, e_call, e_comp, e_bor, e_d0, e_d1, e_pget, r_pput, u_max, u_min, e_oget, e_kin, e_kget, e_kgetd, e_klen, e_sset, e_sortk, r_kput, r_ins, r_ext, r_put, r_pop, e_rev, R.all_ask, es_nil, es_cons, eo_no, eo_yes, ei_seq, ei_rng, ei_zip, ei_enm, szle0, szlt0, szle1, szlt1, szle2, szlt2, szle3, szlt3, szle4, szlt4, szle5, szlt5, szle6, szlt6, szle7, szlt7, szle8, szlt8, szle9, szlt9, szle10, szlt10, szle11, szlt11, szle12, szlt12, szle13, szlt13, szle14, szlt14, szle15, szlt15, szle16, szlt16, szle17, szlt17, szle18, szlt18, szle19, szlt19, szle20, szlt20, szle21, szlt21, szle22, szlt22, szle23, szlt23, szle24, szlt24, szle25, szlt25, szle26, szlt26, szle27, szlt27, szle28, szlt28, szle29, szlt29, szle30, szlt30, Out.wp_nx, Out.wp_rt, Out.wp_bk, Out.wp_ct, eqS_int, isS_bl, R.bind_ok, R.out_ok, Sl.pd_v, Sl.pd_l, Sl.pd_k, List.set_cons_zero, List.set_cons_succ, List.getElem?_cons_zero, List.getElem?_cons_succ, List.getElem?_nil, Option.getD_some, Option.getD_none, if_true, Bool.false_eq_true, if_false, bt_nm, bt_tup, bt_lst, bts_nil, bts_cons, wipeE, start0, List.length_cons, List.length_nil, List.replicate, List.cons_append, List.nil_append, List.map_cons, List.map_nil, Nat.reduceAdd, Nat.reduceSub, Nat.zero_add, Bool.not_true, Bool.not_false, decide_true, decide_false, cg_nil, cg_cons, bls_nil, bls_cons, tst_at, cst_at, ch2_at, w_seq, w_sel, rest_nil, Out.wp_out, isB_ok, isI_ok, PD.flat, ne_eq, not_false_eq_true, Int.reduceEq, Int.reduceToNat, Int.reducePow, Int.reduceLT, Int.reduceLE, Int.reduceMul, Int.reduceAdd, Int.reduceSub, pow9, pow16, pow18, pow57, pow60])
  exact hP ks hk fun x hx => hms x (hm x hx)
theorem pool_eq (ns : List Int) (hl : ns.length ≤ 63) (k : Int) (h0 : 0 ≤ k) (h1 : k ≤ 100) : p_law_pot [.lst (ns.map PD.int), .int k] = .ok (.v .pot) := by
  rw [pq_law_pot]
  have : k_law_pot [.lst (ns.map PD.int), .int k] = true := by
    show ((ints? (ns.map PD.int)).isSome && decide ((ns.map PD.int).length ≤ 63) && decide (0 ≤ k) && decide (k ≤ 100)) = true
    rw [ints_map, List.length_map, decide_eq_true hl, decide_eq_true h0, decide_eq_true h1]
    rfl
  rw [if_pos this]
theorem gds_app (n : Nat) : ∀ a b : List PD, gds n a = true → gds n b = true → gds n (a ++ b) = true
  | [], _, _, h => h
  | x :: a, b, h, h' => by
    rw [gds, Bool.and_eq_true] at h
    rw [List.cons_append, gds, Bool.and_eq_true]
    exact ⟨h.1, gds_app n a b h.2 h'⟩
theorem inner_eq (o1 o2 : PD) (ds pre post : List PD) (a v : Int) (h0 : cutP ds none (some a) = pre) (h1 : atI ds a = some (.int v)) (h2 : cutP ds (some (a + 1)) none = post) (g0 : gds 7 pre = true) (g2 : gds 7 post = true) (l0 : pre.length ≤ 10) (l2 : post.length ≤ 10)
    (o7 : Option Sl) (bs : List Int) (ys : List PD) (o6 : Option Sl) (hy : ∀ y ∈ ys, gd 8 y = true) (hl : ys.length + bs.length ≤ 1000) :
    ∃ (ys' : List PD) (p6 : Option Sl), runF (.nm 6) (FS.run g_law_others w_law_others_0) (bs.map PD.int) [some (.v .pot), some (.v o1), some (.v o2), some (.v (.tup ds)), some (.l ys), some (.v (.int a)), o6, o7] = .nx [some (.v .pot), some (.v o1), some (.v o2), some (.v (.tup ds)), some (.l ys'), some (.v (.int a)), p6, o7] ∧ (∀ y ∈ ys', gd 8 y = true) ∧ ys'.length = ys.length + bs.length := by
  have z1 : (pre.length + 1 ≤ sizeLine) = True := eq_true (by rw [sizeLine_eq]; omega)
  have z2 : (pre.length + 1 + post.length ≤ sizeLine) = True := eq_true (by rw [sizeLine_eq]; omega)
  have H := runF_nx (t := .nm 6) (b := FS.run g_law_others w_law_others_0) (fun xs ρ => ∃ (ys' : List PD) (p6 : Option Sl), (∀ x ∈ xs, ∃ b : Int, x = .int b) ∧ (∀ y ∈ ys', gd 8 y = true) ∧ ys'.length + xs.length = ys.length + bs.length ∧ ρ = [some (.v .pot), some (.v o1), some (.v o2), some (.v (.tup ds)), some (.l ys'), some (.v (.int a)), p6, o7]) (fun x xs ρ hI => ?_) (ds := bs.map PD.int)
    (ρ := [some (.v .pot), some (.v o1), some (.v o2), some (.v (.tup ds)), some (.l ys), some (.v (.int a)), o6, o7]) ⟨ys, o6, fun x hx => (by obtain ⟨b, _, e⟩ := List.mem_map.mp hx; exact ⟨b, e.symm⟩), hy, by rw [List.length_map], rfl⟩
  · obtain ⟨ρ', e, ys', p6, _, q1, q2, rfl⟩ := H
    exact ⟨ys', p6, e, q1, by simpa using q2⟩
  · obtain ⟨ys', p6, q0, q1, q2, rfl⟩ := hI
    obtain ⟨b, rfl⟩ := q0 x (List.mem_cons_self ..)
    rw [List.length_cons] at q2
    have z3 : (ys'.length < sizeLine) = True := eq_true (by rw [sizeLine_eq]; omega)
    refine ⟨_, _, rfl, .inl (by simp only [asP_v, asP_l, asP_k, asB_ok, asI_ok, nox_ok, b_add, b_adds, b_addt, b_addl, b_sub, b_mul, b_fdiv, b_mod, b_pow, b_eq, b_ne, b_lt, b_le, b_gt, b_ge, b_is, b_isn, b_inn, b_nin, b_idxl, b_idxt, b_max, b_min, u_neg, u_lenl, u_lent, u_abs, u_int, u_intb, u_tupl, u_tupt, u_lstl, u_lstt, u_str, u_strs, u_all, u_any, u_sum, seq_l, seq_t, seq_s, sl_l, sl_t, sl_s, is_NoneType_int, is_NoneType_bool, is_NoneType_tuple, is_NoneType_list, is_NoneType_str, is_bool_int, is_bool_bool, is_bool_tuple, is_bool_list, is_bool_str, is_int_int, is_int_bool, is_int_tuple, is_int_list, is_int_str, is_str_int, is_str_bool, is_str_tuple, is_str_list, is_str_str, is_tuple_int, is_tuple_bool, is_tuple_tuple, is_tuple_list, is_tuple_str, is_list_int, is_list_bool, is_list_tuple, is_list_list, is_list_str, is_dict_int, is_dict_bool, is_dict_tuple, is_dict_list, is_dict_str, selE_t, selE_f, evB_at, evP_at, r_pass, r_set, r_own, r_frz, r_unp, r_par, r_app, r_popd, r_popa, r_swp, r_expr, r_ret, r_retm, r_retn, r_ifs, r_whl, r_fr, r_brk, r_cnt, r_raise, r_nil, e_var, e_lit, e_glo, e_u, e_b, e_isi, e_slc, e_rep, e_and, e_or, e_not, e_ite, e_chn, e_chn3, ch3_at, e_qcall, nox_ok, e_mth, e_mkx, mk_index, mk_join, mk_split, m_join, e_lrng, b_divm, e_tup, e_lst, e_call, e_comp, e_bor, e_d0, e_d1, e_pget, r_pput, u_max, u_min, e_oget, e_kin, e_kget, e_kgetd, e_klen, e_sset, e_sortk, r_kput, r_ins, r_ext, r_put, r_pop, e_rev, es_nil, es_cons, eo_no, eo_yes, ei_seq, ei_rng, ei_zip, ei_enm, szle0, szlt0, szle1, szlt1, szle2, szlt2, szle3, szlt3, szle4, szlt4, szle5, szlt5, szle6, szlt6, szle7, szlt7, szle8, szlt8, szle9, szlt9, szle10, szlt10, szle11, szlt11, szle12, szlt12, szle13, szlt13, szle14, szlt14, szle15, szlt15, szle16, szlt16, szle17, szlt17, szle18, szlt18, szle19, szlt19, szle20, szlt20, szle21, szlt21, szle22, szlt22, szle23, szlt23, szle24, szlt24, szle25, szlt25, szle26, szlt26, szle27, szlt27, szle28, szlt28, szle29, szlt29, szle30, szlt30, eqS_int, isS_bl, R.bind_ok, R.out_ok, Sl.pd_v, Sl.pd_l, Sl.pd_k, List.set_cons_zero, List.set_cons_succ, List.getElem?_cons_zero, List.getElem?_cons_succ, List.getElem?_nil, Option.getD_some, Option.getD_none, if_true, Bool.false_eq_true, if_false, bt_nm, bt_tup, bt_lst, bts_nil, bts_cons, wipeE, start0, List.length_cons, List.length_nil, List.replicate, List.cons_append, List.nil_append, List.map_cons, List.map_nil, Nat.reduceAdd, Nat.reduceSub, Nat.zero_add, Bool.not_true, Bool.not_false, decide_true, decide_false, cg_nil, cg_cons, bls_nil, bls_cons, tst_at, cst_at, ch2_at, isB_ok, isI_ok, PD.flat, ne_eq, not_false_eq_true, Int.reduceEq, Int.reduceToNat, Int.reducePow, Int.reduceLT, Int.reduceLE, Int.reduceMul, Int.reduceAdd, Int.reduceSub, pow9, pow16, pow18, pow57, pow60, r_seq, go_nx, go_ct, go_bk, go_rt, go_ex, sel_t, sel_f, res_rt, res_nx, res_ex, R.bind_ex, R.out_ex, r_raise, r_tryc, r_tryn, ca_ex, ca_nx, ca_rt, w_law_others_0, h0, h1, h2, z1, z2, z3, List.length_append, List.length_cons, List.length_nil]; rfl), ys' ++ [.tup (pre ++ [.int (v + b)] ++ post)], _, fun x hx => q0 x (List.mem_cons_of_mem _ hx), fun y hy => ?_, by rw [List.length_append, List.length_singleton]; omega, rfl⟩
    rcases List.mem_append.mp hy with z | z
    · exact q1 y z
    · rw [List.mem_singleton] at z
      rw [z, gd]
      exact gds_app 7 _ _ (gds_app 7 _ _ g0 (by simp [gds, gd])) g2
theorem right_all {ms rs ms' rs' : List Int} (h : RwOk ms rs) (h' : RwOk ms' rs') (T : PD) (hT : told (sh ms rs) (sh ms' rs') (en ms rs ms' rs') (fd (sh ms rs) (sh ms' rs') 0 (en ms rs ms' rs')) = T) (gT : gd 8 T = true) (S : PD) (gS : gd 8 S = true) : (d_held_right [Row ms rs, Row ms' rs', S]).All fun s => s = .v (.bl (decide (T = S))) := by
  rw [q_held_right]
  refine den_all rfl ?_
  simp only [asP_v, asP_l, asP_k, asB_ok, asI_ok, nox_ok, b_add, b_adds, b_addt, b_addl, b_sub, b_mul, b_fdiv, b_mod, b_pow, b_eq, b_ne, b_lt, b_le, b_gt, b_ge, b_is, b_isn, b_inn, b_nin, b_idxl, b_idxt, b_max, b_min, u_neg, u_lenl, u_lent, u_abs, u_int, u_intb, u_tupl, u_tupt, u_lstl, u_lstt, u_str, u_strs, u_all, u_any, u_sum, seq_l, seq_t, seq_s, sl_l, sl_t, sl_s, is_NoneType_int, is_NoneType_bool, is_NoneType_tuple, is_NoneType_list, is_NoneType_str, is_bool_int, is_bool_bool, is_bool_tuple, is_bool_list, is_bool_str, is_int_int, is_int_bool, is_int_tuple, is_int_list, is_int_str, is_str_int, is_str_bool, is_str_tuple, is_str_list, is_str_str, is_tuple_int, is_tuple_bool, is_tuple_tuple, is_tuple_list, is_tuple_str, is_list_int, is_list_bool, is_list_tuple, is_list_list, is_list_str, is_dict_int, is_dict_bool, is_dict_tuple, is_dict_list, is_dict_str, R.all_ok, selE_t, selE_f, evB_at, evP_at, r_pass, r_set, r_own, r_frz, r_unp, r_par, r_app, r_popd, r_popa, r_swp, r_expr, r_ret, r_retm, r_retn, r_ifs, r_whl, r_fr, r_brk, r_cnt, r_raise, r_nil, e_var, e_lit, e_glo, e_u, e_b, e_isi, e_slc, e_rep, e_and, e_or, e_not, e_ite, e_chn, e_chn3, ch3_at, e_qcall, nox_ok, e_mth, e_mkx, mk_index, mk_join, mk_split, m_join, e_lrng, b_divm, e_tup, e_lst, e_call, e_comp, e_bor, e_d0, e_d1, e_pget, r_pput, u_max, u_min, e_oget, e_kin, e_kget, e_kgetd, e_klen, e_sset, e_sortk, r_kput, r_ins, r_ext, r_put, r_pop, e_rev, R.all_ask, es_nil, es_cons, eo_no, eo_yes, ei_seq, ei_rng, ei_zip, ei_enm, szle0, szlt0, szle1, szlt1, szle2, szlt2, szle3, szlt3, szle4, szlt4, szle5, szlt5, szle6, szlt6, szle7, szlt7, szle8, szlt8, szle9, szlt9, szle10, szlt10, szle11, szlt11, szle12, szlt12, szle13, szlt13, szle14, szlt14, szle15, szlt15, szle16, szlt16, szle17, szlt17, szle18, szlt18, szle19, szlt19, szle20, szlt20, szle21, szlt21, szle22, szlt22, szle23, szlt23, szle24, szlt24, szle25, szlt25, szle26, szlt26, szle27, szlt27, szle28, szlt28, szle29, szlt29, szle30, szlt30, Out.wp_nx, Out.wp_rt, Out.wp_bk, Out.wp_ct, eqS_int, isS_bl, R.bind_ok, R.out_ok, Sl.pd_v, Sl.pd_l, Sl.pd_k, List.set_cons_zero, List.set_cons_succ, List.getElem?_cons_zero, List.getElem?_cons_succ, List.getElem?_nil, Option.getD_some, Option.getD_none, if_true, Bool.false_eq_true, if_false, bt_nm, bt_tup, bt_lst, bts_nil, bts_cons, wipeE, start0, List.length_cons, List.length_nil, List.replicate, List.cons_append, List.nil_append, List.map_cons, List.map_nil, Nat.reduceAdd, Nat.reduceSub, Nat.zero_add, Bool.not_true, Bool.not_false, decide_true, decide_false, cg_nil, cg_cons, bls_nil, bls_cons, tst_at, cst_at, ch2_at, w_seq, w_sel, rest_nil, Out.wp_out, isB_ok, isI_ok, PD.flat, ne_eq, not_false_eq_true, Int.reduceEq, Int.reduceToNat, Int.reducePow, Int.reduceLT, Int.reduceLE, Int.reduceMul, Int.reduceAdd, Int.reduceSub, pow9, pow16, pow18, pow57, pow60, R.all_bind, R.all_nox, all_asP, all_asB, all_asI, b_held_right, gf_held_right_0]
  refine (held_all h h' T hT).mono ?_
  rintro s rfl
  simp only [asP_v, asP_l, asP_k, asB_ok, asI_ok, nox_ok, b_add, b_adds, b_addt, b_addl, b_sub, b_mul, b_fdiv, b_mod, b_pow, b_eq, b_ne, b_lt, b_le, b_gt, b_ge, b_is, b_isn, b_inn, b_nin, b_idxl, b_idxt, b_max, b_min, u_neg, u_lenl, u_lent, u_abs, u_int, u_intb, u_tupl, u_tupt, u_lstl, u_lstt, u_str, u_strs, u_all, u_any, u_sum, seq_l, seq_t, seq_s, sl_l, sl_t, sl_s, is_NoneType_int, is_NoneType_bool, is_NoneType_tuple, is_NoneType_list, is_NoneType_str, is_bool_int, is_bool_bool, is_bool_tuple, is_bool_list, is_bool_str, is_int_int, is_int_bool, is_int_tuple, is_int_list, is_int_str, is_str_int, is_str_bool, is_str_tuple, is_str_list, is_str_str, is_tuple_int, is_tuple_bool, is_tuple_tuple, is_tuple_list, is_tuple_str, is_list_int, is_list_bool, is_list_tuple, is_list_list, is_list_str, is_dict_int, is_dict_bool, is_dict_tuple, is_dict_list, is_dict_str, R.all_ok, selE_t, selE_f, evB_at, evP_at, r_pass, r_set, r_own, r_frz, r_unp, r_par, r_app, r_popd, r_popa, r_swp, r_expr, r_ret, r_retm, r_retn, r_ifs, r_whl, r_fr, r_brk, r_cnt, r_raise, r_nil, e_var, e_lit, e_glo, e_u, e_b, e_isi, e_slc, e_rep, e_and, e_or, e_not, e_ite, e_chn, e_chn3, ch3_at, e_qcall, nox_ok, e_mth, e_mkx, mk_index, mk_join, mk_split, m_join, e_lrng, b_divm, e_tup, e_lst, e_call, e_comp, e_bor, e_d0, e_d1, e_pget, r_pput, u_max, u_min, e_oget, e_kin, e_kget, e_kgetd, e_klen, e_sset, e_sortk, r_kput, r_ins, r_ext, r_put, r_pop, e_rev, R.all_ask, es_nil, es_cons, eo_no, eo_yes, ei_seq, ei_rng, ei_zip, ei_enm, szle0, szlt0, szle1, szlt1, szle2, szlt2, szle3, szlt3, szle4, szlt4, szle5, szlt5, szle6, szlt6, szle7, szlt7, szle8, szlt8, szle9, szlt9, szle10, szlt10, szle11, szlt11, szle12, szlt12, szle13, szlt13, szle14, szlt14, szle15, szlt15, szle16, szlt16, szle17, szlt17, szle18, szlt18, szle19, szlt19, szle20, szlt20, szle21, szlt21, szle22, szlt22, szle23, szlt23, szle24, szlt24, szle25, szlt25, szle26, szlt26, szle27, szlt27, szle28, szlt28, szle29, szlt29, szle30, szlt30, Out.wp_nx, Out.wp_rt, Out.wp_bk, Out.wp_ct, eqS_int, isS_bl, R.bind_ok, R.out_ok, Sl.pd_v, Sl.pd_l, Sl.pd_k, List.set_cons_zero, List.set_cons_succ, List.getElem?_cons_zero, List.getElem?_cons_succ, List.getElem?_nil, Option.getD_some, Option.getD_none, if_true, Bool.false_eq_true, if_false, bt_nm, bt_tup, bt_lst, bts_nil, bts_cons, wipeE, start0, List.length_cons, List.length_nil, List.replicate, List.cons_append, List.nil_append, List.map_cons, List.map_nil, Nat.reduceAdd, Nat.reduceSub, Nat.zero_add, Bool.not_true, Bool.not_false, decide_true, decide_false, cg_nil, cg_cons, bls_nil, bls_cons, tst_at, cst_at, ch2_at, w_seq, w_sel, rest_nil, Out.wp_out, isB_ok, isI_ok, PD.flat, ne_eq, not_false_eq_true, Int.reduceEq, Int.reduceToNat, Int.reducePow, Int.reduceLT, Int.reduceLE, Int.reduceMul, Int.reduceAdd, Int.reduceSub, pow9, pow16, pow18, pow57, pow60, eqS_gd (by decide) gT gS]
theorem outer_all (o1 o2 : PD) (ds : List PD) (F : ∀ a : Int, 1 ≤ a → a < ds.length → ∃ pre v post, cutP ds none (some a) = pre ∧ atI ds a = some (.int v) ∧ cutP ds (some (a + 1)) none = post ∧ gds 7 pre = true ∧ gds 7 post = true ∧ pre.length ≤ 10 ∧ post.length ≤ 10)
    (xs : List PD) (hx : ∀ x ∈ xs, ∃ a : Int, x = .int a ∧ 1 ≤ a ∧ a < ds.length) (ys : List PD) (o5 o6 o7 : Option Sl) (hy : ∀ y ∈ ys, gd 8 y = true) (hl : ys.length + 5 * xs.length ≤ 100) (N : En → Prop) (T : Sl → Prop) (B C : En → Prop)
    (hN : ∀ (ys : List PD) (p5 p6 p7 : Option Sl), (∀ y ∈ ys, gd 8 y = true) → ys.length ≤ 100 → N [some (.v .pot), some (.v o1), some (.v o2), some (.v (.tup ds)), some (.l ys), p5, p6, p7]) :
    (runF (.nm 5) (FS.run g_law_others w_law_others_1) xs [some (.v .pot), some (.v o1), some (.v o2), some (.v (.tup ds)), some (.l ys), o5, o6, o7]).Wp N T B C := by
  have p40 := pw_ok 40 (by decide)
  have m2 : ∀ z : Int, mulOk (-2) z := fun z => mulOk_l (by decide)
  refine runF_wp (fun xs ρ => (∀ x ∈ xs, ∃ a : Int, x = .int a ∧ 1 ≤ a ∧ a < ds.length) ∧ ∃ (ys : List PD) (p5 p6 p7 : Option Sl), (∀ y ∈ ys, gd 8 y = true) ∧ ys.length + 5 * xs.length ≤ 100 ∧ ρ = [some (.v .pot), some (.v o1), some (.v o2), some (.v (.tup ds)), some (.l ys), p5, p6, p7]) ?_ ?_ ⟨hx, ys, o5, o6, o7, hy, hl, rfl⟩
  · rintro x xs ρ ⟨q0, ys, p5, p6, p7, q1, q2, rfl⟩
    obtain ⟨a, rfl, a1, a2⟩ := q0 x (List.mem_cons_self ..)
    obtain ⟨pre, v, post, h0, h1, h2, g0, g2, l0, l2⟩ := F a a1 a2
    rw [List.length_cons] at q2
    simp only [asP_v, asP_l, asP_k, asB_ok, asI_ok, nox_ok, b_add, b_adds, b_addt, b_addl, b_sub, b_mul, b_fdiv, b_mod, b_pow, b_eq, b_ne, b_lt, b_le, b_gt, b_ge, b_is, b_isn, b_inn, b_nin, b_idxl, b_idxt, b_max, b_min, u_neg, u_lenl, u_lent, u_abs, u_int, u_intb, u_tupl, u_tupt, u_lstl, u_lstt, u_str, u_strs, u_all, u_any, u_sum, seq_l, seq_t, seq_s, sl_l, sl_t, sl_s, is_NoneType_int, is_NoneType_bool, is_NoneType_tuple, is_NoneType_list, is_NoneType_str, is_bool_int, is_bool_bool, is_bool_tuple, is_bool_list, is_bool_str, is_int_int, is_int_bool, is_int_tuple, is_int_list, is_int_str, is_str_int, is_str_bool, is_str_tuple, is_str_list, is_str_str, is_tuple_int, is_tuple_bool, is_tuple_tuple, is_tuple_list, is_tuple_str, is_list_int, is_list_bool, is_list_tuple, is_list_list, is_list_str, is_dict_int, is_dict_bool, is_dict_tuple, is_dict_list, is_dict_str, R.all_ok, selE_t, selE_f, evB_at, evP_at, r_pass, r_set, r_own, r_frz, r_unp, r_par, r_app, r_popd, r_popa, r_swp, r_expr, r_ret, r_retm, r_retn, r_ifs, r_whl, r_fr, r_brk, r_cnt, r_raise, r_nil, e_var, e_lit, e_glo, e_u, e_b, e_isi, e_slc, e_rep, e_and, e_or, e_not, e_ite, e_chn, e_chn3, ch3_at, e_qcall, nox_ok, e_mth, e_mkx, mk_index, mk_join, mk_split, m_join, e_lrng, b_divm, e_tup, e_lst, e_call, e_comp, e_bor, e_d0, e_d1, e_pget, r_pput, u_max, u_min, e_oget, e_kin, e_kget, e_kgetd, e_klen, e_sset, e_sortk, r_kput, r_ins, r_ext, r_put, r_pop, e_rev, R.all_ask, es_nil, es_cons, eo_no, eo_yes, ei_seq, ei_rng, ei_zip, ei_enm, szle0, szlt0, szle1, szlt1, szle2, szlt2, szle3, szlt3, szle4, szlt4, szle5, szlt5, szle6, szlt6, szle7, szlt7, szle8, szlt8, szle9, szlt9, szle10, szlt10, szle11, szlt11, szle12, szlt12, szle13, szlt13, szle14, szlt14, szle15, szlt15, szle16, szlt16, szle17, szlt17, szle18, szlt18, szle19, szlt19, szle20, szlt20, szle21, szlt21, szle22, szlt22, szle23, szlt23, szle24, szlt24, szle25, szlt25, szle26, szlt26, szle27, szlt27, szle28, szlt28, szle29, szlt29, szle30, szlt30, Out.wp_nx, Out.wp_rt, Out.wp_bk, Out.wp_ct, eqS_int, isS_bl, R.bind_ok, R.out_ok, Sl.pd_v, Sl.pd_l, Sl.pd_k, List.set_cons_zero, List.set_cons_succ, List.getElem?_cons_zero, List.getElem?_cons_succ, List.getElem?_nil, Option.getD_some, Option.getD_none, if_true, Bool.false_eq_true, if_false, bt_nm, bt_tup, bt_lst, bts_nil, bts_cons, wipeE, start0, List.length_cons, List.length_nil, List.replicate, List.cons_append, List.nil_append, List.map_cons, List.map_nil, Nat.reduceAdd, Nat.reduceSub, Nat.zero_add, Bool.not_true, Bool.not_false, decide_true, decide_false, cg_nil, cg_cons, bls_nil, bls_cons, tst_at, cst_at, ch2_at, w_seq, w_sel, rest_nil, Out.wp_out, isB_ok, isI_ok, PD.flat, ne_eq, not_false_eq_true, Int.reduceEq, Int.reduceToNat, Int.reducePow, Int.reduceLT, Int.reduceLE, Int.reduceMul, Int.reduceAdd, Int.reduceSub, pow9, pow16, pow18, pow57, pow60, R.all_bind, R.all_nox, all_asP, all_asB, all_asI, w_law_others_1, gf_law_others_0, gf_law_others_1, p40, m2, h1]
    refine take_all _ (by decide) (by decide) _ fun r r0 r1 => ?_
    obtain ⟨ys', p6', e, q3, q4⟩ := inner_eq o1 o2 ds pre post a v h0 h1 h2 g0 g2 l0 l2 p7 [1, -1, 10000000000000000000000000000000000000000, -2 * v - 1, r] ys p6 q1 (by simp only [List.length_cons, List.length_nil]; omega)
    simp only [List.map_cons, List.map_nil] at e
    simp only [asP_v, asP_l, asP_k, asB_ok, asI_ok, nox_ok, b_add, b_adds, b_addt, b_addl, b_sub, b_mul, b_fdiv, b_mod, b_pow, b_eq, b_ne, b_lt, b_le, b_gt, b_ge, b_is, b_isn, b_inn, b_nin, b_idxl, b_idxt, b_max, b_min, u_neg, u_lenl, u_lent, u_abs, u_int, u_intb, u_tupl, u_tupt, u_lstl, u_lstt, u_str, u_strs, u_all, u_any, u_sum, seq_l, seq_t, seq_s, sl_l, sl_t, sl_s, is_NoneType_int, is_NoneType_bool, is_NoneType_tuple, is_NoneType_list, is_NoneType_str, is_bool_int, is_bool_bool, is_bool_tuple, is_bool_list, is_bool_str, is_int_int, is_int_bool, is_int_tuple, is_int_list, is_int_str, is_str_int, is_str_bool, is_str_tuple, is_str_list, is_str_str, is_tuple_int, is_tuple_bool, is_tuple_tuple, is_tuple_list, is_tuple_str, is_list_int, is_list_bool, is_list_tuple, is_list_list, is_list_str, is_dict_int, is_dict_bool, is_dict_tuple, is_dict_list, is_dict_str, R.all_ok, selE_t, selE_f, evB_at, evP_at, r_pass, r_set, r_own, r_frz, r_unp, r_par, r_app, r_popd, r_popa, r_swp, r_expr, r_ret, r_retm, r_retn, r_ifs, r_whl, r_fr, r_brk, r_cnt, r_raise, r_nil, e_var, e_lit, e_glo, e_u, e_b, e_isi, e_slc, e_rep, e_and, e_or, e_not, e_ite, e_chn, e_chn3, ch3_at, e_qcall, nox_ok, e_mth, e_mkx, mk_index, mk_join, mk_split, m_join, e_lrng, b_divm, e_tup, e_lst, e_call, e_comp, e_bor, e_d0, e_d1, e_pget, r_pput, u_max, u_min, e_oget, e_kin, e_kget, e_kgetd, e_klen, e_sset, e_sortk, r_kput, r_ins, r_ext, r_put, r_pop, e_rev, R.all_ask, es_nil, es_cons, eo_no, eo_yes, ei_seq, ei_rng, ei_zip, ei_enm, szle0, szlt0, szle1, szlt1, szle2, szlt2, szle3, szlt3, szle4, szlt4, szle5, szlt5, szle6, szlt6, szle7, szlt7, szle8, szlt8, szle9, szlt9, szle10, szlt10, szle11, szlt11, szle12, szlt12, szle13, szlt13, szle14, szlt14, szle15, szlt15, szle16, szlt16, szle17, szlt17, szle18, szlt18, szle19, szlt19, szle20, szlt20, szle21, szlt21, szle22, szlt22, szle23, szlt23, szle24, szlt24, szle25, szlt25, szle26, szlt26, szle27, szlt27, szle28, szlt28, szle29, szlt29, szle30, szlt30, Out.wp_nx, Out.wp_rt, Out.wp_bk, Out.wp_ct, eqS_int, isS_bl, R.bind_ok, R.out_ok, Sl.pd_v, Sl.pd_l, Sl.pd_k, List.set_cons_zero, List.set_cons_succ, List.getElem?_cons_zero, List.getElem?_cons_succ, List.getElem?_nil, Option.getD_some, Option.getD_none, if_true, Bool.false_eq_true, if_false, bt_nm, bt_tup, bt_lst, bts_nil, bts_cons, wipeE, start0, List.length_cons, List.length_nil, List.replicate, List.cons_append, List.nil_append, List.map_cons, List.map_nil, Nat.reduceAdd, Nat.reduceSub, Nat.zero_add, Bool.not_true, Bool.not_false, decide_true, decide_false, cg_nil, cg_cons, bls_nil, bls_cons, tst_at, cst_at, ch2_at, w_seq, w_sel, rest_nil, Out.wp_out, isB_ok, isI_ok, PD.flat, ne_eq, not_false_eq_true, Int.reduceEq, Int.reduceToNat, Int.reducePow, Int.reduceLT, Int.reduceLE, Int.reduceMul, Int.reduceAdd, Int.reduceSub, pow9, pow16, pow18, pow57, pow60, e]
    exact ⟨fun x hx => q0 x (List.mem_cons_of_mem _ hx), ys', _, _, _, q3, by simp only [List.length_cons, List.length_nil] at q4; omega, rfl⟩
  · rintro ρ ⟨_, ys, p5, p6, p7, q1, q2, rfl⟩
    exact hN ys p5 p6 p7 q1 (by omega)
theorem sk1 : PyData.strOk "alike" = true := by decide +kernel
theorem sk2 : PyData.strOk "parted" = true := by decide +kernel
theorem sk3 : PyData.strOk "" = true := by decide +kernel
theorem others_all {ms rs ms' rs' : List Int} (h : RwOk ms rs) (h' : RwOk ms' rs') (n : Nat) (hn : n < 1000) (T : PD) (hT : T = .tup [.str "alike", .int n] ∨ ∃ x y : Int, T = .tup [.str "parted", .int n, .int x, .int y]) (P : Sl → Prop)
    (hP : ∀ ys : List PD, (∀ y ∈ ys, gd 8 y = true) → P (.l ys)) : (d_law_others [.pot, Row ms rs, Row ms' rs', T]).All P := by
  obtain ⟨m, hm⟩ : ∃ m : Int, m = (n : Int) := ⟨_, rfl⟩
  rw [← hm] at hT
  have base : ∀ y ∈ [PD.tup [.str "alike", .int m], .tup [.str "parted", .int m, .int 0, .int 0], .tup [.str "", .int m]], gd 8 y = true := fun y hy => by
    simp only [List.mem_cons, List.not_mem_nil, or_false] at hy
    rcases hy with rfl | rfl | rfl <;> simp [gd, gds, sk1, sk2, sk3]
  rcases hT with rfl | ⟨x, y, rfl⟩
  · have a1 : atI [PD.str "alike", .int m] 1 = some (.int m) := rfl
    have l2 : ((2 : Nat) : Int) = 2 := rfl
    have r1 : rngS [PD.int 1, .int 2] = .ok [.int 1] := by rw [rng_two (smallI_of (by decide) (by decide)) (smallI_of (by decide) (by decide))]; rfl
    have c4 : ¬ ((2 : Int) = 4) := by decide
    rw [q_law_others]
    refine den_all rfl ?_
    simp only [asP_v, asP_l, asP_k, asB_ok, asI_ok, nox_ok, b_add, b_adds, b_addt, b_addl, b_sub, b_mul, b_fdiv, b_mod, b_pow, b_eq, b_ne, b_lt, b_le, b_gt, b_ge, b_is, b_isn, b_inn, b_nin, b_idxl, b_idxt, b_max, b_min, u_neg, u_lenl, u_lent, u_abs, u_int, u_intb, u_tupl, u_tupt, u_lstl, u_lstt, u_str, u_strs, u_all, u_any, u_sum, seq_l, seq_t, seq_s, sl_l, sl_t, sl_s, is_NoneType_int, is_NoneType_bool, is_NoneType_tuple, is_NoneType_list, is_NoneType_str, is_bool_int, is_bool_bool, is_bool_tuple, is_bool_list, is_bool_str, is_int_int, is_int_bool, is_int_tuple, is_int_list, is_int_str, is_str_int, is_str_bool, is_str_tuple, is_str_list, is_str_str, is_tuple_int, is_tuple_bool, is_tuple_tuple, is_tuple_list, is_tuple_str, is_list_int, is_list_bool, is_list_tuple, is_list_list, is_list_str, is_dict_int, is_dict_bool, is_dict_tuple, is_dict_list, is_dict_str, R.all_ok, selE_t, selE_f, evB_at, evP_at, r_pass, r_set, r_own, r_frz, r_unp, r_par, r_app, r_popd, r_popa, r_swp, r_expr, r_ret, r_retm, r_retn, r_ifs, r_whl, r_fr, r_brk, r_cnt, r_raise, r_nil, e_var, e_lit, e_glo, e_u, e_b, e_isi, e_slc, e_rep, e_and, e_or, e_not, e_ite, e_chn, e_chn3, ch3_at, e_qcall, nox_ok, e_mth, e_mkx, mk_index, mk_join, mk_split, m_join, e_lrng, b_divm, e_tup, e_lst, e_call, e_comp, e_bor, e_d0, e_d1, e_pget, r_pput, u_max, u_min, e_oget, e_kin, e_kget, e_kgetd, e_klen, e_sset, e_sortk, r_kput, r_ins, r_ext, r_put, r_pop, e_rev, R.all_ask, es_nil, es_cons, eo_no, eo_yes, ei_seq, ei_rng, ei_zip, ei_enm, szle0, szlt0, szle1, szlt1, szle2, szlt2, szle3, szlt3, szle4, szlt4, szle5, szlt5, szle6, szlt6, szle7, szlt7, szle8, szlt8, szle9, szlt9, szle10, szlt10, szle11, szlt11, szle12, szlt12, szle13, szlt13, szle14, szlt14, szle15, szlt15, szle16, szlt16, szle17, szlt17, szle18, szlt18, szle19, szlt19, szle20, szlt20, szle21, szlt21, szle22, szlt22, szle23, szlt23, szle24, szlt24, szle25, szlt25, szle26, szlt26, szle27, szlt27, szle28, szlt28, szle29, szlt29, szle30, szlt30, Out.wp_nx, Out.wp_rt, Out.wp_bk, Out.wp_ct, eqS_int, isS_bl, R.bind_ok, R.out_ok, Sl.pd_v, Sl.pd_l, Sl.pd_k, List.set_cons_zero, List.set_cons_succ, List.getElem?_cons_zero, List.getElem?_cons_succ, List.getElem?_nil, Option.getD_some, Option.getD_none, if_true, Bool.false_eq_true, if_false, bt_nm, bt_tup, bt_lst, bts_nil, bts_cons, wipeE, start0, List.length_cons, List.length_nil, List.replicate, List.cons_append, List.nil_append, List.map_cons, List.map_nil, Nat.reduceAdd, Nat.reduceSub, Nat.zero_add, Bool.not_true, Bool.not_false, decide_true, decide_false, cg_nil, cg_cons, bls_nil, bls_cons, tst_at, cst_at, ch2_at, w_seq, w_sel, rest_nil, Out.wp_out, isB_ok, isI_ok, PD.flat, ne_eq, not_false_eq_true, Int.reduceEq, Int.reduceToNat, Int.reducePow, Int.reduceLT, Int.reduceLE, Int.reduceMul, Int.reduceAdd, Int.reduceSub, pow9, pow16, pow18, pow57, pow60, R.all_bind, R.all_nox, all_asP, all_asB, all_asI, b_law_others, a1]
    (refine Rest.mk ?_; simp only [asP_v, asP_l, asP_k, asB_ok, asI_ok, nox_ok, b_add, b_adds, b_addt, b_addl, b_sub, b_mul, b_fdiv, b_mod, b_pow, b_eq, b_ne, b_lt, b_le, b_gt, b_ge, b_is, b_isn, b_inn, b_nin, b_idxl, b_idxt, b_max, b_min, u_neg, u_lenl, u_lent, u_abs, u_int, u_intb, u_tupl, u_tupt, u_lstl, u_lstt, u_str, u_strs, u_all, u_any, u_sum, seq_l, seq_t, seq_s, sl_l, sl_t, sl_s, is_NoneType_int, is_NoneType_bool, is_NoneType_tuple, is_NoneType_list, is_NoneType_str, is_bool_int, is_bool_bool, is_bool_tuple, is_bool_list, is_bool_str, is_int_int, is_int_bool, is_int_tuple, is_int_list, is_int_str, is_str_int, is_str_bool, is_str_tuple, is_str_list, is_str_str, is_tuple_int, is_tuple_bool, is_tuple_tuple, is_tuple_list, is_tuple_str, is_list_int, is_list_bool, is_list_tuple, is_list_list, is_list_str, is_dict_int, is_dict_bool, is_dict_tuple, is_dict_list, is_dict_str, R.all_ok, selE_t, selE_f, evB_at, evP_at, r_pass, r_set, r_own, r_frz, r_unp, r_par, r_app, r_popd, r_popa, r_swp, r_expr, r_ret, r_retm, r_retn, r_ifs, r_whl, r_fr, r_brk, r_cnt, r_raise, r_nil, e_var, e_lit, e_glo, e_u, e_b, e_isi, e_slc, e_rep, e_and, e_or, e_not, e_ite, e_chn, e_chn3, ch3_at, e_qcall, nox_ok, e_mth, e_mkx, mk_index, mk_join, mk_split, m_join, e_lrng, b_divm, e_tup, e_lst, e_call, e_comp, e_bor, e_d0, e_d1, e_pget, r_pput, u_max, u_min, e_oget, e_kin, e_kget, e_kgetd, e_klen, e_sset, e_sortk, r_kput, r_ins, r_ext, r_put, r_pop, e_rev, R.all_ask, es_nil, es_cons, eo_no, eo_yes, ei_seq, ei_rng, ei_zip, ei_enm, szle0, szlt0, szle1, szlt1, szle2, szlt2, szle3, szlt3, szle4, szlt4, szle5, szlt5, szle6, szlt6, szle7, szlt7, szle8, szlt8, szle9, szlt9, szle10, szlt10, szle11, szlt11, szle12, szlt12, szle13, szlt13, szle14, szlt14, szle15, szlt15, szle16, szlt16, szle17, szlt17, szle18, szlt18, szle19, szlt19, szle20, szlt20, szle21, szlt21, szle22, szlt22, szle23, szlt23, szle24, szlt24, szle25, szlt25, szle26, szlt26, szle27, szlt27, szle28, szlt28, szle29, szlt29, szle30, szlt30, Out.wp_nx, Out.wp_rt, Out.wp_bk, Out.wp_ct, eqS_int, isS_bl, R.bind_ok, R.out_ok, Sl.pd_v, Sl.pd_l, Sl.pd_k, List.set_cons_zero, List.set_cons_succ, List.getElem?_cons_zero, List.getElem?_cons_succ, List.getElem?_nil, Option.getD_some, Option.getD_none, if_true, Bool.false_eq_true, if_false, bt_nm, bt_tup, bt_lst, bts_nil, bts_cons, wipeE, start0, List.length_cons, List.length_nil, List.replicate, List.cons_append, List.nil_append, List.map_cons, List.map_nil, Nat.reduceAdd, Nat.reduceSub, Nat.zero_add, Bool.not_true, Bool.not_false, decide_true, decide_false, cg_nil, cg_cons, bls_nil, bls_cons, tst_at, cst_at, ch2_at, w_seq, w_sel, rest_nil, Out.wp_out, isB_ok, isI_ok, PD.flat, ne_eq, not_false_eq_true, Int.reduceEq, Int.reduceToNat, Int.reducePow, Int.reduceLT, Int.reduceLE, Int.reduceMul, Int.reduceAdd, Int.reduceSub, pow9, pow16, pow18, pow57, pow60, R.all_bind, R.all_nox, all_asP, all_asB, all_asI, l2, r1])
    refine outer_all (Row ms rs) (Row ms' rs') [.str "alike", .int m] (fun a a1 a2 => ?_) [.int 1] (fun x hx => ⟨1, List.mem_singleton.mp hx, by decide, by simp⟩) _ _ _ _ base (by simp) _ _ _ _ fun ys p5 p6 p7 hy hl => ?_
    · have : a = 1 := by simp only [List.length_cons, List.length_nil] at a2; omega
      subst this
      exact ⟨[.str "alike"], m, [], rfl, rfl, rfl, by simp [gds, gd, sk1], rfl, by decide, by decide⟩
    · (refine Rest.mk ?_; simp only [asP_v, asP_l, asP_k, asB_ok, asI_ok, nox_ok, b_add, b_adds, b_addt, b_addl, b_sub, b_mul, b_fdiv, b_mod, b_pow, b_eq, b_ne, b_lt, b_le, b_gt, b_ge, b_is, b_isn, b_inn, b_nin, b_idxl, b_idxt, b_max, b_min, u_neg, u_lenl, u_lent, u_abs, u_int, u_intb, u_tupl, u_tupt, u_lstl, u_lstt, u_str, u_strs, u_all, u_any, u_sum, seq_l, seq_t, seq_s, sl_l, sl_t, sl_s, is_NoneType_int, is_NoneType_bool, is_NoneType_tuple, is_NoneType_list, is_NoneType_str, is_bool_int, is_bool_bool, is_bool_tuple, is_bool_list, is_bool_str, is_int_int, is_int_bool, is_int_tuple, is_int_list, is_int_str, is_str_int, is_str_bool, is_str_tuple, is_str_list, is_str_str, is_tuple_int, is_tuple_bool, is_tuple_tuple, is_tuple_list, is_tuple_str, is_list_int, is_list_bool, is_list_tuple, is_list_list, is_list_str, is_dict_int, is_dict_bool, is_dict_tuple, is_dict_list, is_dict_str, R.all_ok, selE_t, selE_f, evB_at, evP_at, r_pass, r_set, r_own, r_frz, r_unp, r_par, r_app, r_popd, r_popa, r_swp, r_expr, r_ret, r_retm, r_retn, r_ifs, r_whl, r_fr, r_brk, r_cnt, r_raise, r_nil, e_var, e_lit, e_glo, e_u, e_b, e_isi, e_slc, e_rep, e_and, e_or, e_not, e_ite, e_chn, e_chn3, ch3_at, e_qcall, nox_ok, e_mth, e_mkx, mk_index, mk_join, mk_split, m_join, e_lrng, b_divm, e_tup, e_lst, e_call, e_comp, e_bor, e_d0, e_d1, e_pget, r_pput, u_max, u_min, e_oget, e_kin, e_kget, e_kgetd, e_klen, e_sset, e_sortk, r_kput, r_ins, r_ext, r_put, r_pop, e_rev, R.all_ask, es_nil, es_cons, eo_no, eo_yes, ei_seq, ei_rng, ei_zip, ei_enm, szle0, szlt0, szle1, szlt1, szle2, szlt2, szle3, szlt3, szle4, szlt4, szle5, szlt5, szle6, szlt6, szle7, szlt7, szle8, szlt8, szle9, szlt9, szle10, szlt10, szle11, szlt11, szle12, szlt12, szle13, szlt13, szle14, szlt14, szle15, szlt15, szle16, szlt16, szle17, szlt17, szle18, szlt18, szle19, szlt19, szle20, szlt20, szle21, szlt21, szle22, szlt22, szle23, szlt23, szle24, szlt24, szle25, szlt25, szle26, szlt26, szle27, szlt27, szle28, szlt28, szle29, szlt29, szle30, szlt30, Out.wp_nx, Out.wp_rt, Out.wp_bk, Out.wp_ct, eqS_int, isS_bl, R.bind_ok, R.out_ok, Sl.pd_v, Sl.pd_l, Sl.pd_k, List.set_cons_zero, List.set_cons_succ, List.getElem?_cons_zero, List.getElem?_cons_succ, List.getElem?_nil, Option.getD_some, Option.getD_none, if_true, Bool.false_eq_true, if_false, bt_nm, bt_tup, bt_lst, bts_nil, bts_cons, wipeE, start0, List.length_cons, List.length_nil, List.replicate, List.cons_append, List.nil_append, List.map_cons, List.map_nil, Nat.reduceAdd, Nat.reduceSub, Nat.zero_add, Bool.not_true, Bool.not_false, decide_true, decide_false, cg_nil, cg_cons, bls_nil, bls_cons, tst_at, cst_at, ch2_at, w_seq, w_sel, rest_nil, Out.wp_out, isB_ok, isI_ok, PD.flat, ne_eq, not_false_eq_true, Int.reduceEq, Int.reduceToNat, Int.reducePow, Int.reduceLT, Int.reduceLE, Int.reduceMul, Int.reduceAdd, Int.reduceSub, pow9, pow16, pow18, pow57, pow60, R.all_bind, R.all_nox, all_asP, all_asB, all_asI, l2, c4])
      (refine Rest.mk ?_; simp only [asP_v, asP_l, asP_k, asB_ok, asI_ok, nox_ok, b_add, b_adds, b_addt, b_addl, b_sub, b_mul, b_fdiv, b_mod, b_pow, b_eq, b_ne, b_lt, b_le, b_gt, b_ge, b_is, b_isn, b_inn, b_nin, b_idxl, b_idxt, b_max, b_min, u_neg, u_lenl, u_lent, u_abs, u_int, u_intb, u_tupl, u_tupt, u_lstl, u_lstt, u_str, u_strs, u_all, u_any, u_sum, seq_l, seq_t, seq_s, sl_l, sl_t, sl_s, is_NoneType_int, is_NoneType_bool, is_NoneType_tuple, is_NoneType_list, is_NoneType_str, is_bool_int, is_bool_bool, is_bool_tuple, is_bool_list, is_bool_str, is_int_int, is_int_bool, is_int_tuple, is_int_list, is_int_str, is_str_int, is_str_bool, is_str_tuple, is_str_list, is_str_str, is_tuple_int, is_tuple_bool, is_tuple_tuple, is_tuple_list, is_tuple_str, is_list_int, is_list_bool, is_list_tuple, is_list_list, is_list_str, is_dict_int, is_dict_bool, is_dict_tuple, is_dict_list, is_dict_str, R.all_ok, selE_t, selE_f, evB_at, evP_at, r_pass, r_set, r_own, r_frz, r_unp, r_par, r_app, r_popd, r_popa, r_swp, r_expr, r_ret, r_retm, r_retn, r_ifs, r_whl, r_fr, r_brk, r_cnt, r_raise, r_nil, e_var, e_lit, e_glo, e_u, e_b, e_isi, e_slc, e_rep, e_and, e_or, e_not, e_ite, e_chn, e_chn3, ch3_at, e_qcall, nox_ok, e_mth, e_mkx, mk_index, mk_join, mk_split, m_join, e_lrng, b_divm, e_tup, e_lst, e_call, e_comp, e_bor, e_d0, e_d1, e_pget, r_pput, u_max, u_min, e_oget, e_kin, e_kget, e_kgetd, e_klen, e_sset, e_sortk, r_kput, r_ins, r_ext, r_put, r_pop, e_rev, R.all_ask, es_nil, es_cons, eo_no, eo_yes, ei_seq, ei_rng, ei_zip, ei_enm, szle0, szlt0, szle1, szlt1, szle2, szlt2, szle3, szlt3, szle4, szlt4, szle5, szlt5, szle6, szlt6, szle7, szlt7, szle8, szlt8, szle9, szlt9, szle10, szlt10, szle11, szlt11, szle12, szlt12, szle13, szlt13, szle14, szlt14, szle15, szlt15, szle16, szlt16, szle17, szlt17, szle18, szlt18, szle19, szlt19, szle20, szlt20, szle21, szlt21, szle22, szlt22, szle23, szlt23, szle24, szlt24, szle25, szlt25, szle26, szlt26, szle27, szlt27, szle28, szlt28, szle29, szlt29, szle30, szlt30, Out.wp_nx, Out.wp_rt, Out.wp_bk, Out.wp_ct, eqS_int, isS_bl, R.bind_ok, R.out_ok, Sl.pd_v, Sl.pd_l, Sl.pd_k, List.set_cons_zero, List.set_cons_succ, List.getElem?_cons_zero, List.getElem?_cons_succ, List.getElem?_nil, Option.getD_some, Option.getD_none, if_true, Bool.false_eq_true, if_false, bt_nm, bt_tup, bt_lst, bts_nil, bts_cons, wipeE, start0, List.length_cons, List.length_nil, List.replicate, List.cons_append, List.nil_append, List.map_cons, List.map_nil, Nat.reduceAdd, Nat.reduceSub, Nat.zero_add, Bool.not_true, Bool.not_false, decide_true, decide_false, cg_nil, cg_cons, bls_nil, bls_cons, tst_at, cst_at, ch2_at, w_seq, w_sel, rest_nil, Out.wp_out, isB_ok, isI_ok, PD.flat, ne_eq, not_false_eq_true, Int.reduceEq, Int.reduceToNat, Int.reducePow, Int.reduceLT, Int.reduceLE, Int.reduceMul, Int.reduceAdd, Int.reduceSub, pow9, pow16, pow18, pow57, pow60, R.all_bind, R.all_nox, all_asP, all_asB, all_asI])
      exact hP ys hy
  · have a0 : atI [PD.str "parted", .int m, .int x, .int y] 0 = some (.str "parted") := rfl
    have a1 : atI [PD.str "parted", .int m, .int x, .int y] 1 = some (.int m) := rfl
    have a2 : atI [PD.str "parted", .int m, .int x, .int y] 2 = some (.int x) := rfl
    have a3 : atI [PD.str "parted", .int m, .int x, .int y] 3 = some (.int y) := rfl
    have l4 : ((4 : Nat) : Int) = 4 := rfl
    have r1 : rngS [PD.int 1, .int 4] = .ok [.int 1, .int 2, .int 3] := by rw [rng_two (smallI_of (by decide) (by decide)) (smallI_of (by decide) (by decide))]; rfl
    have r2 : rngS [PD.int (m + 1), .int (m + 8)] = .ok (rngItems (m + 1) (m + 8)) := rng_two (smallI_of (by omega) (by omega)) (smallI_of (by omega) (by omega))
    rw [q_law_others]
    refine den_all rfl ?_
    simp only [asP_v, asP_l, asP_k, asB_ok, asI_ok, nox_ok, b_add, b_adds, b_addt, b_addl, b_sub, b_mul, b_fdiv, b_mod, b_pow, b_eq, b_ne, b_lt, b_le, b_gt, b_ge, b_is, b_isn, b_inn, b_nin, b_idxl, b_idxt, b_max, b_min, u_neg, u_lenl, u_lent, u_abs, u_int, u_intb, u_tupl, u_tupt, u_lstl, u_lstt, u_str, u_strs, u_all, u_any, u_sum, seq_l, seq_t, seq_s, sl_l, sl_t, sl_s, is_NoneType_int, is_NoneType_bool, is_NoneType_tuple, is_NoneType_list, is_NoneType_str, is_bool_int, is_bool_bool, is_bool_tuple, is_bool_list, is_bool_str, is_int_int, is_int_bool, is_int_tuple, is_int_list, is_int_str, is_str_int, is_str_bool, is_str_tuple, is_str_list, is_str_str, is_tuple_int, is_tuple_bool, is_tuple_tuple, is_tuple_list, is_tuple_str, is_list_int, is_list_bool, is_list_tuple, is_list_list, is_list_str, is_dict_int, is_dict_bool, is_dict_tuple, is_dict_list, is_dict_str, R.all_ok, selE_t, selE_f, evB_at, evP_at, r_pass, r_set, r_own, r_frz, r_unp, r_par, r_app, r_popd, r_popa, r_swp, r_expr, r_ret, r_retm, r_retn, r_ifs, r_whl, r_fr, r_brk, r_cnt, r_raise, r_nil, e_var, e_lit, e_glo, e_u, e_b, e_isi, e_slc, e_rep, e_and, e_or, e_not, e_ite, e_chn, e_chn3, ch3_at, e_qcall, nox_ok, e_mth, e_mkx, mk_index, mk_join, mk_split, m_join, e_lrng, b_divm, e_tup, e_lst, e_call, e_comp, e_bor, e_d0, e_d1, e_pget, r_pput, u_max, u_min, e_oget, e_kin, e_kget, e_kgetd, e_klen, e_sset, e_sortk, r_kput, r_ins, r_ext, r_put, r_pop, e_rev, R.all_ask, es_nil, es_cons, eo_no, eo_yes, ei_seq, ei_rng, ei_zip, ei_enm, szle0, szlt0, szle1, szlt1, szle2, szlt2, szle3, szlt3, szle4, szlt4, szle5, szlt5, szle6, szlt6, szle7, szlt7, szle8, szlt8, szle9, szlt9, szle10, szlt10, szle11, szlt11, szle12, szlt12, szle13, szlt13, szle14, szlt14, szle15, szlt15, szle16, szlt16, szle17, szlt17, szle18, szlt18, szle19, szlt19, szle20, szlt20, szle21, szlt21, szle22, szlt22, szle23, szlt23, szle24, szlt24, szle25, szlt25, szle26, szlt26, szle27, szlt27, szle28, szlt28, szle29, szlt29, szle30, szlt30, Out.wp_nx, Out.wp_rt, Out.wp_bk, Out.wp_ct, eqS_int, isS_bl, R.bind_ok, R.out_ok, Sl.pd_v, Sl.pd_l, Sl.pd_k, List.set_cons_zero, List.set_cons_succ, List.getElem?_cons_zero, List.getElem?_cons_succ, List.getElem?_nil, Option.getD_some, Option.getD_none, if_true, Bool.false_eq_true, if_false, bt_nm, bt_tup, bt_lst, bts_nil, bts_cons, wipeE, start0, List.length_cons, List.length_nil, List.replicate, List.cons_append, List.nil_append, List.map_cons, List.map_nil, Nat.reduceAdd, Nat.reduceSub, Nat.zero_add, Bool.not_true, Bool.not_false, decide_true, decide_false, cg_nil, cg_cons, bls_nil, bls_cons, tst_at, cst_at, ch2_at, w_seq, w_sel, rest_nil, Out.wp_out, isB_ok, isI_ok, PD.flat, ne_eq, not_false_eq_true, Int.reduceEq, Int.reduceToNat, Int.reducePow, Int.reduceLT, Int.reduceLE, Int.reduceMul, Int.reduceAdd, Int.reduceSub, pow9, pow16, pow18, pow57, pow60, R.all_bind, R.all_nox, all_asP, all_asB, all_asI, b_law_others, a1]
    (refine Rest.mk ?_; simp only [asP_v, asP_l, asP_k, asB_ok, asI_ok, nox_ok, b_add, b_adds, b_addt, b_addl, b_sub, b_mul, b_fdiv, b_mod, b_pow, b_eq, b_ne, b_lt, b_le, b_gt, b_ge, b_is, b_isn, b_inn, b_nin, b_idxl, b_idxt, b_max, b_min, u_neg, u_lenl, u_lent, u_abs, u_int, u_intb, u_tupl, u_tupt, u_lstl, u_lstt, u_str, u_strs, u_all, u_any, u_sum, seq_l, seq_t, seq_s, sl_l, sl_t, sl_s, is_NoneType_int, is_NoneType_bool, is_NoneType_tuple, is_NoneType_list, is_NoneType_str, is_bool_int, is_bool_bool, is_bool_tuple, is_bool_list, is_bool_str, is_int_int, is_int_bool, is_int_tuple, is_int_list, is_int_str, is_str_int, is_str_bool, is_str_tuple, is_str_list, is_str_str, is_tuple_int, is_tuple_bool, is_tuple_tuple, is_tuple_list, is_tuple_str, is_list_int, is_list_bool, is_list_tuple, is_list_list, is_list_str, is_dict_int, is_dict_bool, is_dict_tuple, is_dict_list, is_dict_str, R.all_ok, selE_t, selE_f, evB_at, evP_at, r_pass, r_set, r_own, r_frz, r_unp, r_par, r_app, r_popd, r_popa, r_swp, r_expr, r_ret, r_retm, r_retn, r_ifs, r_whl, r_fr, r_brk, r_cnt, r_raise, r_nil, e_var, e_lit, e_glo, e_u, e_b, e_isi, e_slc, e_rep, e_and, e_or, e_not, e_ite, e_chn, e_chn3, ch3_at, e_qcall, nox_ok, e_mth, e_mkx, mk_index, mk_join, mk_split, m_join, e_lrng, b_divm, e_tup, e_lst, e_call, e_comp, e_bor, e_d0, e_d1, e_pget, r_pput, u_max, u_min, e_oget, e_kin, e_kget, e_kgetd, e_klen, e_sset, e_sortk, r_kput, r_ins, r_ext, r_put, r_pop, e_rev, R.all_ask, es_nil, es_cons, eo_no, eo_yes, ei_seq, ei_rng, ei_zip, ei_enm, szle0, szlt0, szle1, szlt1, szle2, szlt2, szle3, szlt3, szle4, szlt4, szle5, szlt5, szle6, szlt6, szle7, szlt7, szle8, szlt8, szle9, szlt9, szle10, szlt10, szle11, szlt11, szle12, szlt12, szle13, szlt13, szle14, szlt14, szle15, szlt15, szle16, szlt16, szle17, szlt17, szle18, szlt18, szle19, szlt19, szle20, szlt20, szle21, szlt21, szle22, szlt22, szle23, szlt23, szle24, szlt24, szle25, szlt25, szle26, szlt26, szle27, szlt27, szle28, szlt28, szle29, szlt29, szle30, szlt30, Out.wp_nx, Out.wp_rt, Out.wp_bk, Out.wp_ct, eqS_int, isS_bl, R.bind_ok, R.out_ok, Sl.pd_v, Sl.pd_l, Sl.pd_k, List.set_cons_zero, List.set_cons_succ, List.getElem?_cons_zero, List.getElem?_cons_succ, List.getElem?_nil, Option.getD_some, Option.getD_none, if_true, Bool.false_eq_true, if_false, bt_nm, bt_tup, bt_lst, bts_nil, bts_cons, wipeE, start0, List.length_cons, List.length_nil, List.replicate, List.cons_append, List.nil_append, List.map_cons, List.map_nil, Nat.reduceAdd, Nat.reduceSub, Nat.zero_add, Bool.not_true, Bool.not_false, decide_true, decide_false, cg_nil, cg_cons, bls_nil, bls_cons, tst_at, cst_at, ch2_at, w_seq, w_sel, rest_nil, Out.wp_out, isB_ok, isI_ok, PD.flat, ne_eq, not_false_eq_true, Int.reduceEq, Int.reduceToNat, Int.reducePow, Int.reduceLT, Int.reduceLE, Int.reduceMul, Int.reduceAdd, Int.reduceSub, pow9, pow16, pow18, pow57, pow60, R.all_bind, R.all_nox, all_asP, all_asB, all_asI, l4, r1])
    refine outer_all (Row ms rs) (Row ms' rs') [.str "parted", .int m, .int x, .int y] (fun a a1 a2 => ?_) [.int 1, .int 2, .int 3] (fun x hx => ?_) _ _ _ _ base (by simp) _ _ _ _ fun ys p5 p6 p7 hy hl => ?_
    · have : a = 1 ∨ a = 2 ∨ a = 3 := by simp only [List.length_cons, List.length_nil] at a2; omega
      rcases this with rfl | rfl | rfl
      · exact ⟨[.str "parted"], m, [.int x, .int y], rfl, rfl, rfl, by simp [gds, gd, sk2], by simp [gds, gd], by simp, by simp⟩
      · exact ⟨[.str "parted", .int m], x, [.int y], rfl, rfl, rfl, by simp [gds, gd, sk2], by simp [gds, gd], by simp, by simp⟩
      · exact ⟨[.str "parted", .int m, .int x], y, [], rfl, rfl, rfl, by simp [gds, gd, sk2], by simp [gds, gd], by simp, by simp⟩
    · simp only [List.mem_cons, List.not_mem_nil, or_false] at hx
      rcases hx with rfl | rfl | rfl
      · exact ⟨1, rfl, by decide, by simp⟩
      · exact ⟨2, rfl, by decide, by simp⟩
      · exact ⟨3, rfl, by decide, by simp⟩
    · have z : (ys.length < sizeLine) = True := eq_true (by rw [sizeLine_eq]; omega)
      (refine Rest.mk ?_; simp only [asP_v, asP_l, asP_k, asB_ok, asI_ok, nox_ok, b_add, b_adds, b_addt, b_addl, b_sub, b_mul, b_fdiv, b_mod, b_pow, b_eq, b_ne, b_lt, b_le, b_gt, b_ge, b_is, b_isn, b_inn, b_nin, b_idxl, b_idxt, b_max, b_min, u_neg, u_lenl, u_lent, u_abs, u_int, u_intb, u_tupl, u_tupt, u_lstl, u_lstt, u_str, u_strs, u_all, u_any, u_sum, seq_l, seq_t, seq_s, sl_l, sl_t, sl_s, is_NoneType_int, is_NoneType_bool, is_NoneType_tuple, is_NoneType_list, is_NoneType_str, is_bool_int, is_bool_bool, is_bool_tuple, is_bool_list, is_bool_str, is_int_int, is_int_bool, is_int_tuple, is_int_list, is_int_str, is_str_int, is_str_bool, is_str_tuple, is_str_list, is_str_str, is_tuple_int, is_tuple_bool, is_tuple_tuple, is_tuple_list, is_tuple_str, is_list_int, is_list_bool, is_list_tuple, is_list_list, is_list_str, is_dict_int, is_dict_bool, is_dict_tuple, is_dict_list, is_dict_str, R.all_ok, selE_t, selE_f, evB_at, evP_at, r_pass, r_set, r_own, r_frz, r_unp, r_par, r_app, r_popd, r_popa, r_swp, r_expr, r_ret, r_retm, r_retn, r_ifs, r_whl, r_fr, r_brk, r_cnt, r_raise, r_nil, e_var, e_lit, e_glo, e_u, e_b, e_isi, e_slc, e_rep, e_and, e_or, e_not, e_ite, e_chn, e_chn3, ch3_at, e_qcall, nox_ok, e_mth, e_mkx, mk_index, mk_join, mk_split, m_join, e_lrng, b_divm, e_tup, e_lst, e_call, e_comp, e_bor, e_d0, e_d1, e_pget, r_pput, u_max, u_min, e_oget, e_kin, e_kget, e_kgetd, e_klen, e_sset, e_sortk, r_kput, r_ins, r_ext, r_put, r_pop, e_rev, R.all_ask, es_nil, es_cons, eo_no, eo_yes, ei_seq, ei_rng, ei_zip, ei_enm, szle0, szlt0, szle1, szlt1, szle2, szlt2, szle3, szlt3, szle4, szlt4, szle5, szlt5, szle6, szlt6, szle7, szlt7, szle8, szlt8, szle9, szlt9, szle10, szlt10, szle11, szlt11, szle12, szlt12, szle13, szlt13, szle14, szlt14, szle15, szlt15, szle16, szlt16, szle17, szlt17, szle18, szlt18, szle19, szlt19, szle20, szlt20, szle21, szlt21, szle22, szlt22, szle23, szlt23, szle24, szlt24, szle25, szlt25, szle26, szlt26, szle27, szlt27, szle28, szlt28, szle29, szlt29, szle30, szlt30, Out.wp_nx, Out.wp_rt, Out.wp_bk, Out.wp_ct, eqS_int, isS_bl, R.bind_ok, R.out_ok, Sl.pd_v, Sl.pd_l, Sl.pd_k, List.set_cons_zero, List.set_cons_succ, List.getElem?_cons_zero, List.getElem?_cons_succ, List.getElem?_nil, Option.getD_some, Option.getD_none, if_true, Bool.false_eq_true, if_false, bt_nm, bt_tup, bt_lst, bts_nil, bts_cons, wipeE, start0, List.length_cons, List.length_nil, List.replicate, List.cons_append, List.nil_append, List.map_cons, List.map_nil, Nat.reduceAdd, Nat.reduceSub, Nat.zero_add, Bool.not_true, Bool.not_false, decide_true, decide_false, cg_nil, cg_cons, bls_nil, bls_cons, tst_at, cst_at, ch2_at, w_seq, w_sel, rest_nil, Out.wp_out, isB_ok, isI_ok, PD.flat, ne_eq, not_false_eq_true, Int.reduceEq, Int.reduceToNat, Int.reducePow, Int.reduceLT, Int.reduceLE, Int.reduceMul, Int.reduceAdd, Int.reduceSub, pow9, pow16, pow18, pow57, pow60, R.all_bind, R.all_nox, all_asP, all_asB, all_asI, l4])
      (refine Rest.mk ?_; simp only [asP_v, asP_l, asP_k, asB_ok, asI_ok, nox_ok, b_add, b_adds, b_addt, b_addl, b_sub, b_mul, b_fdiv, b_mod, b_pow, b_eq, b_ne, b_lt, b_le, b_gt, b_ge, b_is, b_isn, b_inn, b_nin, b_idxl, b_idxt, b_max, b_min, u_neg, u_lenl, u_lent, u_abs, u_int, u_intb, u_tupl, u_tupt, u_lstl, u_lstt, u_str, u_strs, u_all, u_any, u_sum, seq_l, seq_t, seq_s, sl_l, sl_t, sl_s, is_NoneType_int, is_NoneType_bool, is_NoneType_tuple, is_NoneType_list, is_NoneType_str, is_bool_int, is_bool_bool, is_bool_tuple, is_bool_list, is_bool_str, is_int_int, is_int_bool, is_int_tuple, is_int_list, is_int_str, is_str_int, is_str_bool, is_str_tuple, is_str_list, is_str_str, is_tuple_int, is_tuple_bool, is_tuple_tuple, is_tuple_list, is_tuple_str, is_list_int, is_list_bool, is_list_tuple, is_list_list, is_list_str, is_dict_int, is_dict_bool, is_dict_tuple, is_dict_list, is_dict_str, R.all_ok, selE_t, selE_f, evB_at, evP_at, r_pass, r_set, r_own, r_frz, r_unp, r_par, r_app, r_popd, r_popa, r_swp, r_expr, r_ret, r_retm, r_retn, r_ifs, r_whl, r_fr, r_brk, r_cnt, r_raise, r_nil, e_var, e_lit, e_glo, e_u, e_b, e_isi, e_slc, e_rep, e_and, e_or, e_not, e_ite, e_chn, e_chn3, ch3_at, e_qcall, nox_ok, e_mth, e_mkx, mk_index, mk_join, mk_split, m_join, e_lrng, b_divm, e_tup, e_lst, e_call, e_comp, e_bor, e_d0, e_d1, e_pget, r_pput, u_max, u_min, e_oget, e_kin, e_kget, e_kgetd, e_klen, e_sset, e_sortk, r_kput, r_ins, r_ext, r_put, r_pop, e_rev, R.all_ask, es_nil, es_cons, eo_no, eo_yes, ei_seq, ei_rng, ei_zip, ei_enm, szle0, szlt0, szle1, szlt1, szle2, szlt2, szle3, szlt3, szle4, szlt4, szle5, szlt5, szle6, szlt6, szle7, szlt7, szle8, szlt8, szle9, szlt9, szle10, szlt10, szle11, szlt11, szle12, szlt12, szle13, szlt13, szle14, szlt14, szle15, szlt15, szle16, szlt16, szle17, szlt17, szle18, szlt18, szle19, szlt19, szle20, szlt20, szle21, szlt21, szle22, szlt22, szle23, szlt23, szle24, szlt24, szle25, szlt25, szle26, szlt26, szle27, szlt27, szle28, szlt28, szle29, szlt29, szle30, szlt30, Out.wp_nx, Out.wp_rt, Out.wp_bk, Out.wp_ct, eqS_int, isS_bl, R.bind_ok, R.out_ok, Sl.pd_v, Sl.pd_l, Sl.pd_k, List.set_cons_zero, List.set_cons_succ, List.getElem?_cons_zero, List.getElem?_cons_succ, List.getElem?_nil, Option.getD_some, Option.getD_none, if_true, Bool.false_eq_true, if_false, bt_nm, bt_tup, bt_lst, bts_nil, bts_cons, wipeE, start0, List.length_cons, List.length_nil, List.replicate, List.cons_append, List.nil_append, List.map_cons, List.map_nil, Nat.reduceAdd, Nat.reduceSub, Nat.zero_add, Bool.not_true, Bool.not_false, decide_true, decide_false, cg_nil, cg_cons, bls_nil, bls_cons, tst_at, cst_at, ch2_at, w_seq, w_sel, rest_nil, Out.wp_out, isB_ok, isI_ok, PD.flat, ne_eq, not_false_eq_true, Int.reduceEq, Int.reduceToNat, Int.reducePow, Int.reduceLT, Int.reduceLE, Int.reduceMul, Int.reduceAdd, Int.reduceSub, pow9, pow16, pow18, pow57, pow60, R.all_bind, R.all_nox, all_asP, all_asB, all_asI, a0, a1, a2, a3, z])
      (refine Rest.mk ?_; simp only [asP_v, asP_l, asP_k, asB_ok, asI_ok, nox_ok, b_add, b_adds, b_addt, b_addl, b_sub, b_mul, b_fdiv, b_mod, b_pow, b_eq, b_ne, b_lt, b_le, b_gt, b_ge, b_is, b_isn, b_inn, b_nin, b_idxl, b_idxt, b_max, b_min, u_neg, u_lenl, u_lent, u_abs, u_int, u_intb, u_tupl, u_tupt, u_lstl, u_lstt, u_str, u_strs, u_all, u_any, u_sum, seq_l, seq_t, seq_s, sl_l, sl_t, sl_s, is_NoneType_int, is_NoneType_bool, is_NoneType_tuple, is_NoneType_list, is_NoneType_str, is_bool_int, is_bool_bool, is_bool_tuple, is_bool_list, is_bool_str, is_int_int, is_int_bool, is_int_tuple, is_int_list, is_int_str, is_str_int, is_str_bool, is_str_tuple, is_str_list, is_str_str, is_tuple_int, is_tuple_bool, is_tuple_tuple, is_tuple_list, is_tuple_str, is_list_int, is_list_bool, is_list_tuple, is_list_list, is_list_str, is_dict_int, is_dict_bool, is_dict_tuple, is_dict_list, is_dict_str, R.all_ok, selE_t, selE_f, evB_at, evP_at, r_pass, r_set, r_own, r_frz, r_unp, r_par, r_app, r_popd, r_popa, r_swp, r_expr, r_ret, r_retm, r_retn, r_ifs, r_whl, r_fr, r_brk, r_cnt, r_raise, r_nil, e_var, e_lit, e_glo, e_u, e_b, e_isi, e_slc, e_rep, e_and, e_or, e_not, e_ite, e_chn, e_chn3, ch3_at, e_qcall, nox_ok, e_mth, e_mkx, mk_index, mk_join, mk_split, m_join, e_lrng, b_divm, e_tup, e_lst, e_call, e_comp, e_bor, e_d0, e_d1, e_pget, r_pput, u_max, u_min, e_oget, e_kin, e_kget, e_kgetd, e_klen, e_sset, e_sortk, r_kput, r_ins, r_ext, r_put, r_pop, e_rev, R.all_ask, es_nil, es_cons, eo_no, eo_yes, ei_seq, ei_rng, ei_zip, ei_enm, szle0, szlt0, szle1, szlt1, szle2, szlt2, szle3, szlt3, szle4, szlt4, szle5, szlt5, szle6, szlt6, szle7, szlt7, szle8, szlt8, szle9, szlt9, szle10, szlt10, szle11, szlt11, szle12, szlt12, szle13, szlt13, szle14, szlt14, szle15, szlt15, szle16, szlt16, szle17, szlt17, szle18, szlt18, szle19, szlt19, szle20, szlt20, szle21, szlt21, szle22, szlt22, szle23, szlt23, szle24, szlt24, szle25, szlt25, szle26, szlt26, szle27, szlt27, szle28, szlt28, szle29, szlt29, szle30, szlt30, Out.wp_nx, Out.wp_rt, Out.wp_bk, Out.wp_ct, eqS_int, isS_bl, R.bind_ok, R.out_ok, Sl.pd_v, Sl.pd_l, Sl.pd_k, List.set_cons_zero, List.set_cons_succ, List.getElem?_cons_zero, List.getElem?_cons_succ, List.getElem?_nil, Option.getD_some, Option.getD_none, if_true, Bool.false_eq_true, if_false, bt_nm, bt_tup, bt_lst, bts_nil, bts_cons, wipeE, start0, List.length_cons, List.length_nil, List.replicate, List.cons_append, List.nil_append, List.map_cons, List.map_nil, Nat.reduceAdd, Nat.reduceSub, Nat.zero_add, Bool.not_true, Bool.not_false, decide_true, decide_false, cg_nil, cg_cons, bls_nil, bls_cons, tst_at, cst_at, ch2_at, w_seq, w_sel, rest_nil, Out.wp_out, isB_ok, isI_ok, PD.flat, ne_eq, not_false_eq_true, Int.reduceEq, Int.reduceToNat, Int.reducePow, Int.reduceLT, Int.reduceLE, Int.reduceMul, Int.reduceAdd, Int.reduceSub, pow9, pow16, pow18, pow57, pow60, R.all_bind, R.all_nox, all_asP, all_asB, all_asI, a1, r2])
      have fin : ∀ zs : List PD, (∀ y ∈ zs, gd 8 y = true) → zs.length ≤ 101 → ∀ xs : List PD, xs.length ≤ 7 → (∀ w ∈ xs, ∃ k : Nat, w = .int k ∧ k < 2000) → ∀ p7 : Option Sl, ∀ (N : En → Prop) (T : Sl → Prop) (B C : En → Prop), (∀ (zs : List PD) (p7 : Option Sl), (∀ y ∈ zs, gd 8 y = true) → N [some (.v .pot), some (.v (Row ms rs)), some (.v (Row ms' rs')), some (.v (.tup [.str "parted", .int m, .int x, .int y])), some (.l zs), p5, p6, p7]) →
          (runF (.nm 7) (FS.run g_law_others w_law_others_2) xs [some (.v .pot), some (.v (Row ms rs)), some (.v (Row ms' rs')), some (.v (.tup [.str "parted", .int m, .int x, .int y])), some (.l zs), p5, p6, p7]).Wp N T B C := by
        intro zs hz lz xs lx hx p7 N T B C hN
        refine runF_wp (fun xs ρ => (∀ w ∈ xs, ∃ k : Nat, w = .int k ∧ k < 2000) ∧ ∃ (zs : List PD) (p7 : Option Sl), (∀ y ∈ zs, gd 8 y = true) ∧ zs.length + xs.length ≤ 200 ∧ ρ = [some (.v .pot), some (.v (Row ms rs)), some (.v (Row ms' rs')), some (.v (.tup [.str "parted", .int m, .int x, .int y])), some (.l zs), p5, p6, p7]) ?_ ?_ ⟨hx, zs, p7, hz, by omega, rfl⟩
        · rintro w xs ρ ⟨q0, zs, p7, q1, q2, rfl⟩
          obtain ⟨k, rfl, hk⟩ := q0 w (List.mem_cons_self ..)
          rw [List.length_cons] at q2
          have e1 := law_shell_eq h k (by omega)
          have e2 := law_shell_eq h' k (by omega)
          have z : (zs.length < sizeLine) = True := eq_true (by rw [sizeLine_eq]; omega)
          obtain ⟨j, hj⟩ : ∃ j : Int, j = (k : Int) := ⟨_, rfl⟩
          show (bindT _ (PD.int (k : Int)) _).All _
          rw [← hj] at e1 e2 ⊢
          simp only [asP_v, asP_l, asP_k, asB_ok, asI_ok, nox_ok, b_add, b_adds, b_addt, b_addl, b_sub, b_mul, b_fdiv, b_mod, b_pow, b_eq, b_ne, b_lt, b_le, b_gt, b_ge, b_is, b_isn, b_inn, b_nin, b_idxl, b_idxt, b_max, b_min, u_neg, u_lenl, u_lent, u_abs, u_int, u_intb, u_tupl, u_tupt, u_lstl, u_lstt, u_str, u_strs, u_all, u_any, u_sum, seq_l, seq_t, seq_s, sl_l, sl_t, sl_s, is_NoneType_int, is_NoneType_bool, is_NoneType_tuple, is_NoneType_list, is_NoneType_str, is_bool_int, is_bool_bool, is_bool_tuple, is_bool_list, is_bool_str, is_int_int, is_int_bool, is_int_tuple, is_int_list, is_int_str, is_str_int, is_str_bool, is_str_tuple, is_str_list, is_str_str, is_tuple_int, is_tuple_bool, is_tuple_tuple, is_tuple_list, is_tuple_str, is_list_int, is_list_bool, is_list_tuple, is_list_list, is_list_str, is_dict_int, is_dict_bool, is_dict_tuple, is_dict_list, is_dict_str, R.all_ok, selE_t, selE_f, evB_at, evP_at, r_pass, r_set, r_own, r_frz, r_unp, r_par, r_app, r_popd, r_popa, r_swp, r_expr, r_ret, r_retm, r_retn, r_ifs, r_whl, r_fr, r_brk, r_cnt, r_raise, r_nil, e_var, e_lit, e_glo, e_u, e_b, e_isi, e_slc, e_rep, e_and, e_or, e_not, e_ite, e_chn, e_chn3, ch3_at, e_qcall, nox_ok, e_mth, e_mkx, mk_index, mk_join, mk_split, m_join, e_lrng, b_divm, e_tup, e_lst, e_call, e_comp, e_bor, e_d0, e_d1, e_pget, r_pput, u_max, u_min, e_oget, e_kin, e_kget, e_kgetd, e_klen, e_sset, e_sortk, r_kput, r_ins, r_ext, r_put, r_pop, e_rev, R.all_ask, es_nil, es_cons, eo_no, eo_yes, ei_seq, ei_rng, ei_zip, ei_enm, szle0, szlt0, szle1, szlt1, szle2, szlt2, szle3, szlt3, szle4, szlt4, szle5, szlt5, szle6, szlt6, szle7, szlt7, szle8, szlt8, szle9, szlt9, szle10, szlt10, szle11, szlt11, szle12, szlt12, szle13, szlt13, szle14, szlt14, szle15, szlt15, szle16, szlt16, szle17, szlt17, szle18, szlt18, szle19, szlt19, szle20, szlt20, szle21, szlt21, szle22, szlt22, szle23, szlt23, szle24, szlt24, szle25, szlt25, szle26, szlt26, szle27, szlt27, szle28, szlt28, szle29, szlt29, szle30, szlt30, Out.wp_nx, Out.wp_rt, Out.wp_bk, Out.wp_ct, eqS_int, isS_bl, R.bind_ok, R.out_ok, Sl.pd_v, Sl.pd_l, Sl.pd_k, List.set_cons_zero, List.set_cons_succ, List.getElem?_cons_zero, List.getElem?_cons_succ, List.getElem?_nil, Option.getD_some, Option.getD_none, if_true, Bool.false_eq_true, if_false, bt_nm, bt_tup, bt_lst, bts_nil, bts_cons, wipeE, start0, List.length_cons, List.length_nil, List.replicate, List.cons_append, List.nil_append, List.map_cons, List.map_nil, Nat.reduceAdd, Nat.reduceSub, Nat.zero_add, Bool.not_true, Bool.not_false, decide_true, decide_false, cg_nil, cg_cons, bls_nil, bls_cons, tst_at, cst_at, ch2_at, w_seq, w_sel, rest_nil, Out.wp_out, isB_ok, isI_ok, PD.flat, ne_eq, not_false_eq_true, Int.reduceEq, Int.reduceToNat, Int.reducePow, Int.reduceLT, Int.reduceLE, Int.reduceMul, Int.reduceAdd, Int.reduceSub, pow9, pow16, pow18, pow57, pow60, R.all_bind, R.all_nox, all_asP, all_asB, all_asI, w_law_others_2, gf_law_others_0, gf_law_others_1, e1, e2, z]
          refine ⟨fun w hw => q0 w (List.mem_cons_of_mem _ hw), _, _, fun y hy => ?_, ?_, rfl⟩
          · rcases List.mem_append.mp hy with u | u
            · exact q1 y u
            · rw [List.mem_singleton] at u
              rw [u]; simp [gd, gds, sk2]
          · rw [List.length_append, List.length_singleton]; omega
        · rintro ρ ⟨_, zs, p7, q1, _, rfl⟩
          exact hN zs p7 q1
      refine fin _ (fun y hy' => ?_) (by rw [List.length_append, List.length_singleton]; omega) _ (by simp [rngItems]; omega) (fun w hw => ?_) _ _ _ _ _ fun zs p7 hz => ?_
      · rcases List.mem_append.mp hy' with u | u
        · exact hy y u
        · rw [List.mem_singleton] at u
          rw [u]; simp [gd, gds, sk2]
      · obtain ⟨j, e, j0, j1⟩ := mem_rng hw
        exact ⟨j.toNat, by rw [e, Int.toNat_of_nonneg (by omega)], by omega⟩
      · (refine Rest.mk ?_; simp only [asP_v, asP_l, asP_k, asB_ok, asI_ok, nox_ok, b_add, b_adds, b_addt, b_addl, b_sub, b_mul, b_fdiv, b_mod, b_pow, b_eq, b_ne, b_lt, b_le, b_gt, b_ge, b_is, b_isn, b_inn, b_nin, b_idxl, b_idxt, b_max, b_min, u_neg, u_lenl, u_lent, u_abs, u_int, u_intb, u_tupl, u_tupt, u_lstl, u_lstt, u_str, u_strs, u_all, u_any, u_sum, seq_l, seq_t, seq_s, sl_l, sl_t, sl_s, is_NoneType_int, is_NoneType_bool, is_NoneType_tuple, is_NoneType_list, is_NoneType_str, is_bool_int, is_bool_bool, is_bool_tuple, is_bool_list, is_bool_str, is_int_int, is_int_bool, is_int_tuple, is_int_list, is_int_str, is_str_int, is_str_bool, is_str_tuple, is_str_list, is_str_str, is_tuple_int, is_tuple_bool, is_tuple_tuple, is_tuple_list, is_tuple_str, is_list_int, is_list_bool, is_list_tuple, is_list_list, is_list_str, is_dict_int, is_dict_bool, is_dict_tuple, is_dict_list, is_dict_str, R.all_ok, selE_t, selE_f, evB_at, evP_at, r_pass, r_set, r_own, r_frz, r_unp, r_par, r_app, r_popd, r_popa, r_swp, r_expr, r_ret, r_retm, r_retn, r_ifs, r_whl, r_fr, r_brk, r_cnt, r_raise, r_nil, e_var, e_lit, e_glo, e_u, e_b, e_isi, e_slc, e_rep, e_and, e_or, e_not, e_ite, e_chn, e_chn3, ch3_at, e_qcall, nox_ok, e_mth, e_mkx, mk_index, mk_join, mk_split, m_join, e_lrng, b_divm, e_tup, e_lst, e_call, e_comp, e_bor, e_d0, e_d1, e_pget, r_pput, u_max, u_min, e_oget, e_kin, e_kget, e_kgetd, e_klen, e_sset, e_sortk, r_kput, r_ins, r_ext, r_put, r_pop, e_rev, R.all_ask, es_nil, es_cons, eo_no, eo_yes, ei_seq, ei_rng, ei_zip, ei_enm, szle0, szlt0, szle1, szlt1, szle2, szlt2, szle3, szlt3, szle4, szlt4, szle5, szlt5, szle6, szlt6, szle7, szlt7, szle8, szlt8, szle9, szlt9, szle10, szlt10, szle11, szlt11, szle12, szlt12, szle13, szlt13, szle14, szlt14, szle15, szlt15, szle16, szlt16, szle17, szlt17, szle18, szlt18, szle19, szlt19, szle20, szlt20, szle21, szlt21, szle22, szlt22, szle23, szlt23, szle24, szlt24, szle25, szlt25, szle26, szlt26, szle27, szlt27, szle28, szlt28, szle29, szlt29, szle30, szlt30, Out.wp_nx, Out.wp_rt, Out.wp_bk, Out.wp_ct, eqS_int, isS_bl, R.bind_ok, R.out_ok, Sl.pd_v, Sl.pd_l, Sl.pd_k, List.set_cons_zero, List.set_cons_succ, List.getElem?_cons_zero, List.getElem?_cons_succ, List.getElem?_nil, Option.getD_some, Option.getD_none, if_true, Bool.false_eq_true, if_false, bt_nm, bt_tup, bt_lst, bts_nil, bts_cons, wipeE, start0, List.length_cons, List.length_nil, List.replicate, List.cons_append, List.nil_append, List.map_cons, List.map_nil, Nat.reduceAdd, Nat.reduceSub, Nat.zero_add, Bool.not_true, Bool.not_false, decide_true, decide_false, cg_nil, cg_cons, bls_nil, bls_cons, tst_at, cst_at, ch2_at, w_seq, w_sel, rest_nil, Out.wp_out, isB_ok, isI_ok, PD.flat, ne_eq, not_false_eq_true, Int.reduceEq, Int.reduceToNat, Int.reducePow, Int.reduceLT, Int.reduceLE, Int.reduceMul, Int.reduceAdd, Int.reduceSub, pow9, pow16, pow18, pow57, pow60, R.all_bind, R.all_nox, all_asP, all_asB, all_asI])
        (refine Rest.mk ?_; simp only [asP_v, asP_l, asP_k, asB_ok, asI_ok, nox_ok, b_add, b_adds, b_addt, b_addl, b_sub, b_mul, b_fdiv, b_mod, b_pow, b_eq, b_ne, b_lt, b_le, b_gt, b_ge, b_is, b_isn, b_inn, b_nin, b_idxl, b_idxt, b_max, b_min, u_neg, u_lenl, u_lent, u_abs, u_int, u_intb, u_tupl, u_tupt, u_lstl, u_lstt, u_str, u_strs, u_all, u_any, u_sum, seq_l, seq_t, seq_s, sl_l, sl_t, sl_s, is_NoneType_int, is_NoneType_bool, is_NoneType_tuple, is_NoneType_list, is_NoneType_str, is_bool_int, is_bool_bool, is_bool_tuple, is_bool_list, is_bool_str, is_int_int, is_int_bool, is_int_tuple, is_int_list, is_int_str, is_str_int, is_str_bool, is_str_tuple, is_str_list, is_str_str, is_tuple_int, is_tuple_bool, is_tuple_tuple, is_tuple_list, is_tuple_str, is_list_int, is_list_bool, is_list_tuple, is_list_list, is_list_str, is_dict_int, is_dict_bool, is_dict_tuple, is_dict_list, is_dict_str, R.all_ok, selE_t, selE_f, evB_at, evP_at, r_pass, r_set, r_own, r_frz, r_unp, r_par, r_app, r_popd, r_popa, r_swp, r_expr, r_ret, r_retm, r_retn, r_ifs, r_whl, r_fr, r_brk, r_cnt, r_raise, r_nil, e_var, e_lit, e_glo, e_u, e_b, e_isi, e_slc, e_rep, e_and, e_or, e_not, e_ite, e_chn, e_chn3, ch3_at, e_qcall, nox_ok, e_mth, e_mkx, mk_index, mk_join, mk_split, m_join, e_lrng, b_divm, e_tup, e_lst, e_call, e_comp, e_bor, e_d0, e_d1, e_pget, r_pput, u_max, u_min, e_oget, e_kin, e_kget, e_kgetd, e_klen, e_sset, e_sortk, r_kput, r_ins, r_ext, r_put, r_pop, e_rev, R.all_ask, es_nil, es_cons, eo_no, eo_yes, ei_seq, ei_rng, ei_zip, ei_enm, szle0, szlt0, szle1, szlt1, szle2, szlt2, szle3, szlt3, szle4, szlt4, szle5, szlt5, szle6, szlt6, szle7, szlt7, szle8, szlt8, szle9, szlt9, szle10, szlt10, szle11, szlt11, szle12, szlt12, szle13, szlt13, szle14, szlt14, szle15, szlt15, szle16, szlt16, szle17, szlt17, szle18, szlt18, szle19, szlt19, szle20, szlt20, szle21, szlt21, szle22, szlt22, szle23, szlt23, szle24, szlt24, szle25, szlt25, szle26, szlt26, szle27, szlt27, szle28, szlt28, szle29, szlt29, szle30, szlt30, Out.wp_nx, Out.wp_rt, Out.wp_bk, Out.wp_ct, eqS_int, isS_bl, R.bind_ok, R.out_ok, Sl.pd_v, Sl.pd_l, Sl.pd_k, List.set_cons_zero, List.set_cons_succ, List.getElem?_cons_zero, List.getElem?_cons_succ, List.getElem?_nil, Option.getD_some, Option.getD_none, if_true, Bool.false_eq_true, if_false, bt_nm, bt_tup, bt_lst, bts_nil, bts_cons, wipeE, start0, List.length_cons, List.length_nil, List.replicate, List.cons_append, List.nil_append, List.map_cons, List.map_nil, Nat.reduceAdd, Nat.reduceSub, Nat.zero_add, Bool.not_true, Bool.not_false, decide_true, decide_false, cg_nil, cg_cons, bls_nil, bls_cons, tst_at, cst_at, ch2_at, w_seq, w_sel, rest_nil, Out.wp_out, isB_ok, isI_ok, PD.flat, ne_eq, not_false_eq_true, Int.reduceEq, Int.reduceToNat, Int.reducePow, Int.reduceLT, Int.reduceLE, Int.reduceMul, Int.reduceAdd, Int.reduceSub, pow9, pow16, pow18, pow57, pow60, R.all_bind, R.all_nox, all_asP, all_asB, all_asI])
        exact hP zs hz
theorem fd_lt {f g : Nat → Int} : ∀ {m k i : Nat}, fd f g k m = some i → i < k + m
  | 0, _, _, h => by cases h
  | m + 1, k, i, h => by
    rw [fd] at h
    by_cases c : f k = g k
    · rw [if_pos c] at h
      have := fd_lt h
      omega
    · rw [if_neg c] at h
      cases h
      omega
theorem getD_abs {ns : List Int} {B : Nat} (hb : ∀ x ∈ ns, x.natAbs < B) (h0 : 0 < B) (n : Nat) : (ns.getD n 0).natAbs < B := by
  rw [List.getD_eq_getElem?_getD]
  cases e : ns[n]? with
  | none => exact h0
  | some x => exact hb x (List.mem_of_getElem? e)
theorem sh_abs {ms rs : List Int} (bm : ∀ x ∈ ms, x.natAbs < 4000001) (br : ∀ x ∈ rs, x.natAbs < 4000001) {n : Nat} (hn : n < 1000) : (sh ms rs n).natAbs < 1000000000000 := by
  unfold sh
  split
  · have := getD_abs bm (by decide) n
    omega
  · have h1 := getD_abs bm (by decide) (n - (1 + (n - ms.length) / rs.length) * rs.length)
    have h2 := getD_abs br (by decide) (n % rs.length)
    have h3 := Nat.div_le_self (n - ms.length) rs.length
    generalize ms.getD (n - (1 + (n - ms.length) / rs.length) * rs.length) 0 = X at *
    generalize rs.getD (n % rs.length) 0 = Y at *
    generalize (n - ms.length) / rs.length = Z at *
    have h4 : (((1 + Z : Nat) : Int) * Y).natAbs ≤ 1001 * 4000001 := by
      rw [Int.natAbs_mul]
      exact Nat.mul_le_mul (by omega) (by omega)
    generalize ((1 + Z : Nat) : Int) * Y = W at *
    omega
theorem row_sh {ms rs : List Int} (h : RwOk ms rs) (bm : ∀ x ∈ ms, x.natAbs < 4000001) (br : ∀ x ∈ rs, x.natAbs < 4000001) : ShD 3 100 (Row ms rs).py := by
  have e : (Row ms rs).py = .tuple [.tuple (pys (ms.map PD.int)), .tuple (pys (rs.map PD.int))] := by simp only [Row, tupI, PD.py, pys]
  have a : ∀ {ns : List Int}, (∀ x ∈ ns, x.natAbs < 4000001) → ShD 2 ns.length (.tuple (pys (ns.map PD.int))) := fun hb => (ShA.ints (fun x hx => lg12 (by have := hb x hx; omega)) 1).tup
  rw [e]
  have := h.l2
  have := h.p2
  exact (ShA.cons (a bm) (ShA.cons (a br) (ShA.nil 2 0))).tup.mono (by omega) (by omega)
theorem str_sh {x : Str} (h : PyData.strOk x = true) (h2 : PyData.strOk (PyData.str x).shown = true) (h3 : (PyData.str x).leavesShort 1921 = true) (h4 : x.cps.size ≤ 10) : ShD 1 10 (.str x) where
  sh := by simp only [PyData.showable]
  cl := h
  dp := by simp only [PyData.depth]; omega
  lv := h3
  bk := h4
  ok := h2
theorem told_sh (n : Nat) (hn : n < 1000) (T : PD) (hT : T = .tup [.str "alike", .int n] ∨ ∃ x y : Int, (x.natAbs < 1000000000000 ∧ y.natAbs < 1000000000000) ∧ T = .tup [.str "parted", .int n, .int x, .int y]) : ShD 3 100 T.py := by
  have hN : ShD 1 0 (PyData.int n) := ShD.int (lg12 (by omega)) 1 0
  rcases hT with rfl | ⟨x, y, ⟨hx, hy⟩, rfl⟩
  · have e : (PD.tup [.str "alike", .int n]).py = .tuple [.str "alike", .int n] := by simp only [PD.py, pys]
    rw [e]
    exact (ShA.cons (str_sh sk1 (by rw [PyData.shown_str]; decide +kernel) (by simp only [PyData.leavesShort]; decide +kernel) (by decide +kernel)) (ShA.cons hN (ShA.nil 1 0))).tup.mono (by omega) (by omega)
  · have e : (PD.tup [.str "parted", .int n, .int x, .int y]).py = .tuple [.str "parted", .int n, .int x, .int y] := by simp only [PD.py, pys]
    rw [e]
    exact (ShA.cons (str_sh sk2 (by rw [PyData.shown_str]; decide +kernel) (by simp only [PyData.leavesShort]; decide +kernel) (by decide +kernel)) (ShA.cons hN (ShA.cons (ShD.int (lg12 hx) 1 0) (ShA.cons (ShD.int (lg12 hy) 1 0) (ShA.nil 1 0))))).tup.mono (by omega) (by omega)
theorem eqS_bl (a b : Bool) : eqS (.bl a) (.bl b) = .ok (decide (a = b)) := by cases a <;> cases b <;> rfl
theorem isi_bl {g : Gs} {b : Bool} : isiAny g (.bl b) [.bt "bool"] = some true := rfl
theorem tail_all (sc kk : PD) {ms rs ms' rs' : List Int} (h : RwOk ms rs) (bm : ∀ x ∈ ms, x.natAbs < 4000001) (br : ∀ x ∈ rs, x.natAbs < 4000001) (h' : RwOk ms' rs') (bm' : ∀ x ∈ ms', x.natAbs < 4000001) (br' : ∀ x ∈ rs', x.natAbs < 4000001)
    (o5 o6 o7 o8 : Option Sl) (N : En → Prop) (T : Sl → Prop) (B C : En → Prop) (hN : ∀ p5 p6 p7 p8 : Option Sl, N [some (.v sc), some (.v kk), some (.v .pot), some (.v (Row ms rs)), some (.v (Row ms' rs')), p5, p6, p7, p8]) :
    Rest g_law r_law_0 N T B C [some (.v sc), some (.v kk), some (.v .pot), some (.v (Row ms rs)), some (.v (Row ms' rs')), o5, o6, o7, o8] := by
  have big := en_big h h'
  obtain ⟨T1, hT1⟩ : ∃ T1, told (sh ms rs) (sh ms' rs') (en ms rs ms' rs') (fd (sh ms rs) (sh ms' rs') 0 (en ms rs ms' rs')) = T1 := ⟨_, rfl⟩
  obtain ⟨n, hn, hk⟩ : ∃ n : Nat, n < 1000 ∧ (T1 = .tup [.str "alike", .int n] ∨ ∃ x y : Int, (x.natAbs < 1000000000000 ∧ y.natAbs < 1000000000000) ∧ T1 = .tup [.str "parted", .int n, .int x, .int y]) := by
    cases e : fd (sh ms rs) (sh ms' rs') 0 (en ms rs ms' rs') with
    | none =>
      rw [e, told] at hT1
      exact ⟨_, big, .inl hT1.symm⟩
    | some n =>
      have := fd_lt e
      rw [e, told] at hT1
      exact ⟨n, by omega, .inr ⟨_, _, ⟨sh_abs bm br (by omega), sh_abs bm' br' (by omega)⟩, hT1.symm⟩⟩
  have hk' : T1 = .tup [.str "alike", .int n] ∨ ∃ x y : Int, T1 = .tup [.str "parted", .int n, .int x, .int y] := by
    rcases hk with z | ⟨x, y, _, z⟩
    · exact .inl z
    · exact .inr ⟨x, y, z⟩
  have gT : gd 8 T1 = true := by
    rcases hk' with rfl | ⟨x, y, rfl⟩ <;> simp [gd, gds, sk1, sk2]
  obtain ⟨u, ou, es⟩ := strd_eq (xs := [Row ms rs, Row ms' rs', T1]) (by
    have e : pys [Row ms rs, Row ms' rs', T1] = [(Row ms rs).py, (Row ms' rs').py, T1.py] := by simp only [pys]
    rw [e]
    exact (ShA.cons (row_sh h bm br) (ShA.cons (row_sh h' bm' br') (ShA.cons (told_sh n hn T1 hk) (ShA.nil 3 0)))).lst.mono (by omega) (by omega))
  have eu : eqS (.str u) (.str u) = .ok true := by
    rw [eqS_gd (n := 0) (by decide) (by simpa [gd] using ou) (by simpa [gd] using ou)]; simp
  have ist : isS (.bl true) (.bl true) = .ok true := rfl
  have d1 := held_all h h' T1 hT1
  have dr := right_all h h' T1 hT1 gT
  have dt := others_all h h' n hn T1 hk'
  generalize Row ms rs = X at *
  generalize Row ms' rs' = Y at *
  refine Rest.mk ?_
  simp only [asP_v, asP_l, asP_k, asB_ok, asI_ok, nox_ok, b_add, b_adds, b_addt, b_addl, b_sub, b_mul, b_fdiv, b_mod, b_pow, b_eq, b_ne, b_lt, b_le, b_gt, b_ge, b_is, b_isn, b_inn, b_nin, b_idxl, b_idxt, b_max, b_min, u_neg, u_lenl, u_lent, u_abs, u_int, u_intb, u_tupl, u_tupt, u_lstl, u_lstt, u_str, u_strs, u_all, u_any, u_sum, seq_l, seq_t, seq_s, sl_l, sl_t, sl_s, is_NoneType_int, is_NoneType_bool, is_NoneType_tuple, is_NoneType_list, is_NoneType_str, is_bool_int, is_bool_bool, is_bool_tuple, is_bool_list, is_bool_str, is_int_int, is_int_bool, is_int_tuple, is_int_list, is_int_str, is_str_int, is_str_bool, is_str_tuple, is_str_list, is_str_str, is_tuple_int, is_tuple_bool, is_tuple_tuple, is_tuple_list, is_tuple_str, is_list_int, is_list_bool, is_list_tuple, is_list_list, is_list_str, is_dict_int, is_dict_bool, is_dict_tuple, is_dict_list, is_dict_str, R.all_ok, selE_t, selE_f, evB_at, evP_at, r_pass, r_set, r_own, r_frz, r_unp, r_par, r_app, r_popd, r_popa, r_swp, r_expr, r_ret, r_retm, r_retn, r_ifs, r_whl, r_fr, r_brk, r_cnt, r_raise, r_nil, e_var, e_lit, e_glo, e_u, e_b, e_isi, e_slc, e_rep, e_and, e_or, e_not, e_ite, e_chn, e_chn3, ch3_at, e_qcall, nox_ok, e_mth, e_mkx, mk_index, mk_join, mk_split, m_join, e_lrng, b_divm, e_tup, e_lst, e_call, e_comp, e_bor, e_d0, e_d1, e_pget, r_pput, u_max, u_min, e_oget, e_kin, e_kget, e_kgetd, e_klen, e_sset, e_sortk, r_kput, r_ins, r_ext, r_put, r_pop, e_rev, R.all_ask, es_nil, es_cons, eo_no, eo_yes, ei_seq, ei_rng, ei_zip, ei_enm, szle0, szlt0, szle1, szlt1, szle2, szlt2, szle3, szlt3, szle4, szlt4, szle5, szlt5, szle6, szlt6, szle7, szlt7, szle8, szlt8, szle9, szlt9, szle10, szlt10, szle11, szlt11, szle12, szlt12, szle13, szlt13, szle14, szlt14, szle15, szlt15, szle16, szlt16, szle17, szlt17, szle18, szlt18, szle19, szlt19, szle20, szlt20, szle21, szlt21, szle22, szlt22, szle23, szlt23, szle24, szlt24, szle25, szlt25, szle26, szlt26, szle27, szlt27, szle28, szlt28, szle29, szlt29, szle30, szlt30, Out.wp_nx, Out.wp_rt, Out.wp_bk, Out.wp_ct, eqS_int, isS_bl, R.bind_ok, R.out_ok, Sl.pd_v, Sl.pd_l, Sl.pd_k, List.set_cons_zero, List.set_cons_succ, List.getElem?_cons_zero, List.getElem?_cons_succ, List.getElem?_nil, Option.getD_some, Option.getD_none, if_true, Bool.false_eq_true, if_false, bt_nm, bt_tup, bt_lst, bts_nil, bts_cons, wipeE, start0, List.length_cons, List.length_nil, List.replicate, List.cons_append, List.nil_append, List.map_cons, List.map_nil, Nat.reduceAdd, Nat.reduceSub, Nat.zero_add, Bool.not_true, Bool.not_false, decide_true, decide_false, cg_nil, cg_cons, bls_nil, bls_cons, tst_at, cst_at, ch2_at, w_seq, w_sel, rest_nil, Out.wp_out, isB_ok, isI_ok, PD.flat, ne_eq, not_false_eq_true, Int.reduceEq, Int.reduceToNat, Int.reducePow, Int.reduceLT, Int.reduceLE, Int.reduceMul, Int.reduceAdd, Int.reduceSub, pow9, pow16, pow18, pow57, pow60, R.all_bind, R.all_nox, all_asP, all_asB, all_asI, r_law_0, gf_law_0, gf_law_1, gf_law_2, gf_law_3, gf_law_4, gf_law_5, gf_law_6]
  refine d1.mono ?_
  rintro _ rfl
  simp only [asP_v, asP_l, asP_k, asB_ok, asI_ok, nox_ok, b_add, b_adds, b_addt, b_addl, b_sub, b_mul, b_fdiv, b_mod, b_pow, b_eq, b_ne, b_lt, b_le, b_gt, b_ge, b_is, b_isn, b_inn, b_nin, b_idxl, b_idxt, b_max, b_min, u_neg, u_lenl, u_lent, u_abs, u_int, u_intb, u_tupl, u_tupt, u_lstl, u_lstt, u_str, u_strs, u_all, u_any, u_sum, seq_l, seq_t, seq_s, sl_l, sl_t, sl_s, is_NoneType_int, is_NoneType_bool, is_NoneType_tuple, is_NoneType_list, is_NoneType_str, is_bool_int, is_bool_bool, is_bool_tuple, is_bool_list, is_bool_str, is_int_int, is_int_bool, is_int_tuple, is_int_list, is_int_str, is_str_int, is_str_bool, is_str_tuple, is_str_list, is_str_str, is_tuple_int, is_tuple_bool, is_tuple_tuple, is_tuple_list, is_tuple_str, is_list_int, is_list_bool, is_list_tuple, is_list_list, is_list_str, is_dict_int, is_dict_bool, is_dict_tuple, is_dict_list, is_dict_str, R.all_ok, selE_t, selE_f, evB_at, evP_at, r_pass, r_set, r_own, r_frz, r_unp, r_par, r_app, r_popd, r_popa, r_swp, r_expr, r_ret, r_retm, r_retn, r_ifs, r_whl, r_fr, r_brk, r_cnt, r_raise, r_nil, e_var, e_lit, e_glo, e_u, e_b, e_isi, e_slc, e_rep, e_and, e_or, e_not, e_ite, e_chn, e_chn3, ch3_at, e_qcall, nox_ok, e_mth, e_mkx, mk_index, mk_join, mk_split, m_join, e_lrng, b_divm, e_tup, e_lst, e_call, e_comp, e_bor, e_d0, e_d1, e_pget, r_pput, u_max, u_min, e_oget, e_kin, e_kget, e_kgetd, e_klen, e_sset, e_sortk, r_kput, r_ins, r_ext, r_put, r_pop, e_rev, R.all_ask, es_nil, es_cons, eo_no, eo_yes, ei_seq, ei_rng, ei_zip, ei_enm, szle0, szlt0, szle1, szlt1, szle2, szlt2, szle3, szlt3, szle4, szlt4, szle5, szlt5, szle6, szlt6, szle7, szlt7, szle8, szlt8, szle9, szlt9, szle10, szlt10, szle11, szlt11, szle12, szlt12, szle13, szlt13, szle14, szlt14, szle15, szlt15, szle16, szlt16, szle17, szlt17, szle18, szlt18, szle19, szlt19, szle20, szlt20, szle21, szlt21, szle22, szlt22, szle23, szlt23, szle24, szlt24, szle25, szlt25, szle26, szlt26, szle27, szlt27, szle28, szlt28, szle29, szlt29, szle30, szlt30, Out.wp_nx, Out.wp_rt, Out.wp_bk, Out.wp_ct, eqS_int, isS_bl, R.bind_ok, R.out_ok, Sl.pd_v, Sl.pd_l, Sl.pd_k, List.set_cons_zero, List.set_cons_succ, List.getElem?_cons_zero, List.getElem?_cons_succ, List.getElem?_nil, Option.getD_some, Option.getD_none, if_true, Bool.false_eq_true, if_false, bt_nm, bt_tup, bt_lst, bts_nil, bts_cons, wipeE, start0, List.length_cons, List.length_nil, List.replicate, List.cons_append, List.nil_append, List.map_cons, List.map_nil, Nat.reduceAdd, Nat.reduceSub, Nat.zero_add, Bool.not_true, Bool.not_false, decide_true, decide_false, cg_nil, cg_cons, bls_nil, bls_cons, tst_at, cst_at, ch2_at, w_seq, w_sel, rest_nil, Out.wp_out, isB_ok, isI_ok, PD.flat, ne_eq, not_false_eq_true, Int.reduceEq, Int.reduceToNat, Int.reducePow, Int.reduceLT, Int.reduceLE, Int.reduceMul, Int.reduceAdd, Int.reduceSub, pow9, pow16, pow18, pow57, pow60]
  (refine Rest.mk ?_; simp only [asP_v, asP_l, asP_k, asB_ok, asI_ok, nox_ok, b_add, b_adds, b_addt, b_addl, b_sub, b_mul, b_fdiv, b_mod, b_pow, b_eq, b_ne, b_lt, b_le, b_gt, b_ge, b_is, b_isn, b_inn, b_nin, b_idxl, b_idxt, b_max, b_min, u_neg, u_lenl, u_lent, u_abs, u_int, u_intb, u_tupl, u_tupt, u_lstl, u_lstt, u_str, u_strs, u_all, u_any, u_sum, seq_l, seq_t, seq_s, sl_l, sl_t, sl_s, is_NoneType_int, is_NoneType_bool, is_NoneType_tuple, is_NoneType_list, is_NoneType_str, is_bool_int, is_bool_bool, is_bool_tuple, is_bool_list, is_bool_str, is_int_int, is_int_bool, is_int_tuple, is_int_list, is_int_str, is_str_int, is_str_bool, is_str_tuple, is_str_list, is_str_str, is_tuple_int, is_tuple_bool, is_tuple_tuple, is_tuple_list, is_tuple_str, is_list_int, is_list_bool, is_list_tuple, is_list_list, is_list_str, is_dict_int, is_dict_bool, is_dict_tuple, is_dict_list, is_dict_str, R.all_ok, selE_t, selE_f, evB_at, evP_at, r_pass, r_set, r_own, r_frz, r_unp, r_par, r_app, r_popd, r_popa, r_swp, r_expr, r_ret, r_retm, r_retn, r_ifs, r_whl, r_fr, r_brk, r_cnt, r_raise, r_nil, e_var, e_lit, e_glo, e_u, e_b, e_isi, e_slc, e_rep, e_and, e_or, e_not, e_ite, e_chn, e_chn3, ch3_at, e_qcall, nox_ok, e_mth, e_mkx, mk_index, mk_join, mk_split, m_join, e_lrng, b_divm, e_tup, e_lst, e_call, e_comp, e_bor, e_d0, e_d1, e_pget, r_pput, u_max, u_min, e_oget, e_kin, e_kget, e_kgetd, e_klen, e_sset, e_sortk, r_kput, r_ins, r_ext, r_put, r_pop, e_rev, R.all_ask, es_nil, es_cons, eo_no, eo_yes, ei_seq, ei_rng, ei_zip, ei_enm, szle0, szlt0, szle1, szlt1, szle2, szlt2, szle3, szlt3, szle4, szlt4, szle5, szlt5, szle6, szlt6, szle7, szlt7, szle8, szlt8, szle9, szlt9, szle10, szlt10, szle11, szlt11, szle12, szlt12, szle13, szlt13, szle14, szlt14, szle15, szlt15, szle16, szlt16, szle17, szlt17, szle18, szlt18, szle19, szlt19, szle20, szlt20, szle21, szlt21, szle22, szlt22, szle23, szlt23, szle24, szlt24, szle25, szlt25, szle26, szlt26, szle27, szlt27, szle28, szlt28, szle29, szlt29, szle30, szlt30, Out.wp_nx, Out.wp_rt, Out.wp_bk, Out.wp_ct, eqS_int, isS_bl, R.bind_ok, R.out_ok, Sl.pd_v, Sl.pd_l, Sl.pd_k, List.set_cons_zero, List.set_cons_succ, List.getElem?_cons_zero, List.getElem?_cons_succ, List.getElem?_nil, Option.getD_some, Option.getD_none, if_true, Bool.false_eq_true, if_false, bt_nm, bt_tup, bt_lst, bts_nil, bts_cons, wipeE, start0, List.length_cons, List.length_nil, List.replicate, List.cons_append, List.nil_append, List.map_cons, List.map_nil, Nat.reduceAdd, Nat.reduceSub, Nat.zero_add, Bool.not_true, Bool.not_false, decide_true, decide_false, cg_nil, cg_cons, bls_nil, bls_cons, tst_at, cst_at, ch2_at, w_seq, w_sel, rest_nil, Out.wp_out, isB_ok, isI_ok, PD.flat, ne_eq, not_false_eq_true, Int.reduceEq, Int.reduceToNat, Int.reducePow, Int.reduceLT, Int.reduceLE, Int.reduceMul, Int.reduceAdd, Int.reduceSub, pow9, pow16, pow18, pow57, pow60, gf_law_0, gf_law_1, gf_law_2, gf_law_3, gf_law_4, gf_law_5, gf_law_6, es])
  (refine Rest.mk ?_; simp only [asP_v, asP_l, asP_k, asB_ok, asI_ok, nox_ok, b_add, b_adds, b_addt, b_addl, b_sub, b_mul, b_fdiv, b_mod, b_pow, b_eq, b_ne, b_lt, b_le, b_gt, b_ge, b_is, b_isn, b_inn, b_nin, b_idxl, b_idxt, b_max, b_min, u_neg, u_lenl, u_lent, u_abs, u_int, u_intb, u_tupl, u_tupt, u_lstl, u_lstt, u_str, u_strs, u_all, u_any, u_sum, seq_l, seq_t, seq_s, sl_l, sl_t, sl_s, is_NoneType_int, is_NoneType_bool, is_NoneType_tuple, is_NoneType_list, is_NoneType_str, is_bool_int, is_bool_bool, is_bool_tuple, is_bool_list, is_bool_str, is_int_int, is_int_bool, is_int_tuple, is_int_list, is_int_str, is_str_int, is_str_bool, is_str_tuple, is_str_list, is_str_str, is_tuple_int, is_tuple_bool, is_tuple_tuple, is_tuple_list, is_tuple_str, is_list_int, is_list_bool, is_list_tuple, is_list_list, is_list_str, is_dict_int, is_dict_bool, is_dict_tuple, is_dict_list, is_dict_str, R.all_ok, selE_t, selE_f, evB_at, evP_at, r_pass, r_set, r_own, r_frz, r_unp, r_par, r_app, r_popd, r_popa, r_swp, r_expr, r_ret, r_retm, r_retn, r_ifs, r_whl, r_fr, r_brk, r_cnt, r_raise, r_nil, e_var, e_lit, e_glo, e_u, e_b, e_isi, e_slc, e_rep, e_and, e_or, e_not, e_ite, e_chn, e_chn3, ch3_at, e_qcall, nox_ok, e_mth, e_mkx, mk_index, mk_join, mk_split, m_join, e_lrng, b_divm, e_tup, e_lst, e_call, e_comp, e_bor, e_d0, e_d1, e_pget, r_pput, u_max, u_min, e_oget, e_kin, e_kget, e_kgetd, e_klen, e_sset, e_sortk, r_kput, r_ins, r_ext, r_put, r_pop, e_rev, R.all_ask, es_nil, es_cons, eo_no, eo_yes, ei_seq, ei_rng, ei_zip, ei_enm, szle0, szlt0, szle1, szlt1, szle2, szlt2, szle3, szlt3, szle4, szlt4, szle5, szlt5, szle6, szlt6, szle7, szlt7, szle8, szlt8, szle9, szlt9, szle10, szlt10, szle11, szlt11, szle12, szlt12, szle13, szlt13, szle14, szlt14, szle15, szlt15, szle16, szlt16, szle17, szlt17, szle18, szlt18, szle19, szlt19, szle20, szlt20, szle21, szlt21, szle22, szlt22, szle23, szlt23, szle24, szlt24, szle25, szlt25, szle26, szlt26, szle27, szlt27, szle28, szlt28, szle29, szlt29, szle30, szlt30, Out.wp_nx, Out.wp_rt, Out.wp_bk, Out.wp_ct, eqS_int, isS_bl, R.bind_ok, R.out_ok, Sl.pd_v, Sl.pd_l, Sl.pd_k, List.set_cons_zero, List.set_cons_succ, List.getElem?_cons_zero, List.getElem?_cons_succ, List.getElem?_nil, Option.getD_some, Option.getD_none, if_true, Bool.false_eq_true, if_false, bt_nm, bt_tup, bt_lst, bts_nil, bts_cons, wipeE, start0, List.length_cons, List.length_nil, List.replicate, List.cons_append, List.nil_append, List.map_cons, List.map_nil, Nat.reduceAdd, Nat.reduceSub, Nat.zero_add, Bool.not_true, Bool.not_false, decide_true, decide_false, cg_nil, cg_cons, bls_nil, bls_cons, tst_at, cst_at, ch2_at, w_seq, w_sel, rest_nil, Out.wp_out, isB_ok, isI_ok, PD.flat, ne_eq, not_false_eq_true, Int.reduceEq, Int.reduceToNat, Int.reducePow, Int.reduceLT, Int.reduceLE, Int.reduceMul, Int.reduceAdd, Int.reduceSub, pow9, pow16, pow18, pow57, pow60, gf_law_0, gf_law_1, gf_law_2, gf_law_3, gf_law_4, gf_law_5, gf_law_6, R.all_bind, R.all_nox, all_asP, all_asB, all_asI])
  refine (dr _ gT).mono ?_
  rintro _ rfl
  have tt : decide (T1 = T1) = true := by simp
  simp only [asP_v, asP_l, asP_k, asB_ok, asI_ok, nox_ok, b_add, b_adds, b_addt, b_addl, b_sub, b_mul, b_fdiv, b_mod, b_pow, b_eq, b_ne, b_lt, b_le, b_gt, b_ge, b_is, b_isn, b_inn, b_nin, b_idxl, b_idxt, b_max, b_min, u_neg, u_lenl, u_lent, u_abs, u_int, u_intb, u_tupl, u_tupt, u_lstl, u_lstt, u_str, u_strs, u_all, u_any, u_sum, seq_l, seq_t, seq_s, sl_l, sl_t, sl_s, is_NoneType_int, is_NoneType_bool, is_NoneType_tuple, is_NoneType_list, is_NoneType_str, is_bool_int, is_bool_bool, is_bool_tuple, is_bool_list, is_bool_str, is_int_int, is_int_bool, is_int_tuple, is_int_list, is_int_str, is_str_int, is_str_bool, is_str_tuple, is_str_list, is_str_str, is_tuple_int, is_tuple_bool, is_tuple_tuple, is_tuple_list, is_tuple_str, is_list_int, is_list_bool, is_list_tuple, is_list_list, is_list_str, is_dict_int, is_dict_bool, is_dict_tuple, is_dict_list, is_dict_str, R.all_ok, selE_t, selE_f, evB_at, evP_at, r_pass, r_set, r_own, r_frz, r_unp, r_par, r_app, r_popd, r_popa, r_swp, r_expr, r_ret, r_retm, r_retn, r_ifs, r_whl, r_fr, r_brk, r_cnt, r_raise, r_nil, e_var, e_lit, e_glo, e_u, e_b, e_isi, e_slc, e_rep, e_and, e_or, e_not, e_ite, e_chn, e_chn3, ch3_at, e_qcall, nox_ok, e_mth, e_mkx, mk_index, mk_join, mk_split, m_join, e_lrng, b_divm, e_tup, e_lst, e_call, e_comp, e_bor, e_d0, e_d1, e_pget, r_pput, u_max, u_min, e_oget, e_kin, e_kget, e_kgetd, e_klen, e_sset, e_sortk, r_kput, r_ins, r_ext, r_put, r_pop, e_rev, R.all_ask, es_nil, es_cons, eo_no, eo_yes, ei_seq, ei_rng, ei_zip, ei_enm, szle0, szlt0, szle1, szlt1, szle2, szlt2, szle3, szlt3, szle4, szlt4, szle5, szlt5, szle6, szlt6, szle7, szlt7, szle8, szlt8, szle9, szlt9, szle10, szlt10, szle11, szlt11, szle12, szlt12, szle13, szlt13, szle14, szlt14, szle15, szlt15, szle16, szlt16, szle17, szlt17, szle18, szlt18, szle19, szlt19, szle20, szlt20, szle21, szlt21, szle22, szlt22, szle23, szlt23, szle24, szlt24, szle25, szlt25, szle26, szlt26, szle27, szlt27, szle28, szlt28, szle29, szlt29, szle30, szlt30, Out.wp_nx, Out.wp_rt, Out.wp_bk, Out.wp_ct, eqS_int, isS_bl, R.bind_ok, R.out_ok, Sl.pd_v, Sl.pd_l, Sl.pd_k, List.set_cons_zero, List.set_cons_succ, List.getElem?_cons_zero, List.getElem?_cons_succ, List.getElem?_nil, Option.getD_some, Option.getD_none, if_true, Bool.false_eq_true, if_false, bt_nm, bt_tup, bt_lst, bts_nil, bts_cons, wipeE, start0, List.length_cons, List.length_nil, List.replicate, List.cons_append, List.nil_append, List.map_cons, List.map_nil, Nat.reduceAdd, Nat.reduceSub, Nat.zero_add, Bool.not_true, Bool.not_false, decide_true, decide_false, cg_nil, cg_cons, bls_nil, bls_cons, tst_at, cst_at, ch2_at, w_seq, w_sel, rest_nil, Out.wp_out, isB_ok, isI_ok, PD.flat, ne_eq, not_false_eq_true, Int.reduceEq, Int.reduceToNat, Int.reducePow, Int.reduceLT, Int.reduceLE, Int.reduceMul, Int.reduceAdd, Int.reduceSub, pow9, pow16, pow18, pow57, pow60, tt, ist]
  (refine Rest.mk ?_; simp only [asP_v, asP_l, asP_k, asB_ok, asI_ok, nox_ok, b_add, b_adds, b_addt, b_addl, b_sub, b_mul, b_fdiv, b_mod, b_pow, b_eq, b_ne, b_lt, b_le, b_gt, b_ge, b_is, b_isn, b_inn, b_nin, b_idxl, b_idxt, b_max, b_min, u_neg, u_lenl, u_lent, u_abs, u_int, u_intb, u_tupl, u_tupt, u_lstl, u_lstt, u_str, u_strs, u_all, u_any, u_sum, seq_l, seq_t, seq_s, sl_l, sl_t, sl_s, is_NoneType_int, is_NoneType_bool, is_NoneType_tuple, is_NoneType_list, is_NoneType_str, is_bool_int, is_bool_bool, is_bool_tuple, is_bool_list, is_bool_str, is_int_int, is_int_bool, is_int_tuple, is_int_list, is_int_str, is_str_int, is_str_bool, is_str_tuple, is_str_list, is_str_str, is_tuple_int, is_tuple_bool, is_tuple_tuple, is_tuple_list, is_tuple_str, is_list_int, is_list_bool, is_list_tuple, is_list_list, is_list_str, is_dict_int, is_dict_bool, is_dict_tuple, is_dict_list, is_dict_str, R.all_ok, selE_t, selE_f, evB_at, evP_at, r_pass, r_set, r_own, r_frz, r_unp, r_par, r_app, r_popd, r_popa, r_swp, r_expr, r_ret, r_retm, r_retn, r_ifs, r_whl, r_fr, r_brk, r_cnt, r_raise, r_nil, e_var, e_lit, e_glo, e_u, e_b, e_isi, e_slc, e_rep, e_and, e_or, e_not, e_ite, e_chn, e_chn3, ch3_at, e_qcall, nox_ok, e_mth, e_mkx, mk_index, mk_join, mk_split, m_join, e_lrng, b_divm, e_tup, e_lst, e_call, e_comp, e_bor, e_d0, e_d1, e_pget, r_pput, u_max, u_min, e_oget, e_kin, e_kget, e_kgetd, e_klen, e_sset, e_sortk, r_kput, r_ins, r_ext, r_put, r_pop, e_rev, R.all_ask, es_nil, es_cons, eo_no, eo_yes, ei_seq, ei_rng, ei_zip, ei_enm, szle0, szlt0, szle1, szlt1, szle2, szlt2, szle3, szlt3, szle4, szlt4, szle5, szlt5, szle6, szlt6, szle7, szlt7, szle8, szlt8, szle9, szlt9, szle10, szlt10, szle11, szlt11, szle12, szlt12, szle13, szlt13, szle14, szlt14, szle15, szlt15, szle16, szlt16, szle17, szlt17, szle18, szlt18, szle19, szlt19, szle20, szlt20, szle21, szlt21, szle22, szlt22, szle23, szlt23, szle24, szlt24, szle25, szlt25, szle26, szlt26, szle27, szlt27, szle28, szlt28, szle29, szlt29, szle30, szlt30, Out.wp_nx, Out.wp_rt, Out.wp_bk, Out.wp_ct, eqS_int, isS_bl, R.bind_ok, R.out_ok, Sl.pd_v, Sl.pd_l, Sl.pd_k, List.set_cons_zero, List.set_cons_succ, List.getElem?_cons_zero, List.getElem?_cons_succ, List.getElem?_nil, Option.getD_some, Option.getD_none, if_true, Bool.false_eq_true, if_false, bt_nm, bt_tup, bt_lst, bts_nil, bts_cons, wipeE, start0, List.length_cons, List.length_nil, List.replicate, List.cons_append, List.nil_append, List.map_cons, List.map_nil, Nat.reduceAdd, Nat.reduceSub, Nat.zero_add, Bool.not_true, Bool.not_false, decide_true, decide_false, cg_nil, cg_cons, bls_nil, bls_cons, tst_at, cst_at, ch2_at, w_seq, w_sel, rest_nil, Out.wp_out, isB_ok, isI_ok, PD.flat, ne_eq, not_false_eq_true, Int.reduceEq, Int.reduceToNat, Int.reducePow, Int.reduceLT, Int.reduceLE, Int.reduceMul, Int.reduceAdd, Int.reduceSub, pow9, pow16, pow18, pow57, pow60, gf_law_0, gf_law_1, gf_law_2, gf_law_3, gf_law_4, gf_law_5, gf_law_6, R.all_bind, R.all_nox, all_asP, all_asB, all_asI])
  refine dt _ fun ys hy => ?_
  simp only [asP_v, asP_l, asP_k, asB_ok, asI_ok, nox_ok, b_add, b_adds, b_addt, b_addl, b_sub, b_mul, b_fdiv, b_mod, b_pow, b_eq, b_ne, b_lt, b_le, b_gt, b_ge, b_is, b_isn, b_inn, b_nin, b_idxl, b_idxt, b_max, b_min, u_neg, u_lenl, u_lent, u_abs, u_int, u_intb, u_tupl, u_tupt, u_lstl, u_lstt, u_str, u_strs, u_all, u_any, u_sum, seq_l, seq_t, seq_s, sl_l, sl_t, sl_s, is_NoneType_int, is_NoneType_bool, is_NoneType_tuple, is_NoneType_list, is_NoneType_str, is_bool_int, is_bool_bool, is_bool_tuple, is_bool_list, is_bool_str, is_int_int, is_int_bool, is_int_tuple, is_int_list, is_int_str, is_str_int, is_str_bool, is_str_tuple, is_str_list, is_str_str, is_tuple_int, is_tuple_bool, is_tuple_tuple, is_tuple_list, is_tuple_str, is_list_int, is_list_bool, is_list_tuple, is_list_list, is_list_str, is_dict_int, is_dict_bool, is_dict_tuple, is_dict_list, is_dict_str, R.all_ok, selE_t, selE_f, evB_at, evP_at, r_pass, r_set, r_own, r_frz, r_unp, r_par, r_app, r_popd, r_popa, r_swp, r_expr, r_ret, r_retm, r_retn, r_ifs, r_whl, r_fr, r_brk, r_cnt, r_raise, r_nil, e_var, e_lit, e_glo, e_u, e_b, e_isi, e_slc, e_rep, e_and, e_or, e_not, e_ite, e_chn, e_chn3, ch3_at, e_qcall, nox_ok, e_mth, e_mkx, mk_index, mk_join, mk_split, m_join, e_lrng, b_divm, e_tup, e_lst, e_call, e_comp, e_bor, e_d0, e_d1, e_pget, r_pput, u_max, u_min, e_oget, e_kin, e_kget, e_kgetd, e_klen, e_sset, e_sortk, r_kput, r_ins, r_ext, r_put, r_pop, e_rev, R.all_ask, es_nil, es_cons, eo_no, eo_yes, ei_seq, ei_rng, ei_zip, ei_enm, szle0, szlt0, szle1, szlt1, szle2, szlt2, szle3, szlt3, szle4, szlt4, szle5, szlt5, szle6, szlt6, szle7, szlt7, szle8, szlt8, szle9, szlt9, szle10, szlt10, szle11, szlt11, szle12, szlt12, szle13, szlt13, szle14, szlt14, szle15, szlt15, szle16, szlt16, szle17, szlt17, szle18, szlt18, szle19, szlt19, szle20, szlt20, szle21, szlt21, szle22, szlt22, szle23, szlt23, szle24, szlt24, szle25, szlt25, szle26, szlt26, szle27, szlt27, szle28, szlt28, szle29, szlt29, szle30, szlt30, Out.wp_nx, Out.wp_rt, Out.wp_bk, Out.wp_ct, eqS_int, isS_bl, R.bind_ok, R.out_ok, Sl.pd_v, Sl.pd_l, Sl.pd_k, List.set_cons_zero, List.set_cons_succ, List.getElem?_cons_zero, List.getElem?_cons_succ, List.getElem?_nil, Option.getD_some, Option.getD_none, if_true, Bool.false_eq_true, if_false, bt_nm, bt_tup, bt_lst, bts_nil, bts_cons, wipeE, start0, List.length_cons, List.length_nil, List.replicate, List.cons_append, List.nil_append, List.map_cons, List.map_nil, Nat.reduceAdd, Nat.reduceSub, Nat.zero_add, Bool.not_true, Bool.not_false, decide_true, decide_false, cg_nil, cg_cons, bls_nil, bls_cons, tst_at, cst_at, ch2_at, w_seq, w_sel, rest_nil, Out.wp_out, isB_ok, isI_ok, PD.flat, ne_eq, not_false_eq_true, Int.reduceEq, Int.reduceToNat, Int.reducePow, Int.reduceLT, Int.reduceLE, Int.reduceMul, Int.reduceAdd, Int.reduceSub, pow9, pow16, pow18, pow57, pow60]
  refine runF_wp (fun xs ρ => (∀ y ∈ xs, gd 8 y = true) ∧ ∃ o7 o8 : Option Sl, ρ = [some (.v sc), some (.v kk), some (.v .pot), some (.v X), some (.v Y), some (.v T1), some (.v (.str u)), o7, o8]) ?_ ?_ ⟨hy, _, _, rfl⟩
  · rintro x xs ρ ⟨hy, o7, o8, rfl⟩
    have gx := hy x (List.mem_cons_self ..)
    have e1 : eqS x T1 = .ok (decide (T1 = x)) := by
      rw [eqS_gd (n := 8) (by decide) gx gT]
      congr 1
      exact decide_eq_decide.mpr eq_comm
    simp only [asP_v, asP_l, asP_k, asB_ok, asI_ok, nox_ok, b_add, b_adds, b_addt, b_addl, b_sub, b_mul, b_fdiv, b_mod, b_pow, b_eq, b_ne, b_lt, b_le, b_gt, b_ge, b_is, b_isn, b_inn, b_nin, b_idxl, b_idxt, b_max, b_min, u_neg, u_lenl, u_lent, u_abs, u_int, u_intb, u_tupl, u_tupt, u_lstl, u_lstt, u_str, u_strs, u_all, u_any, u_sum, seq_l, seq_t, seq_s, sl_l, sl_t, sl_s, is_NoneType_int, is_NoneType_bool, is_NoneType_tuple, is_NoneType_list, is_NoneType_str, is_bool_int, is_bool_bool, is_bool_tuple, is_bool_list, is_bool_str, is_int_int, is_int_bool, is_int_tuple, is_int_list, is_int_str, is_str_int, is_str_bool, is_str_tuple, is_str_list, is_str_str, is_tuple_int, is_tuple_bool, is_tuple_tuple, is_tuple_list, is_tuple_str, is_list_int, is_list_bool, is_list_tuple, is_list_list, is_list_str, is_dict_int, is_dict_bool, is_dict_tuple, is_dict_list, is_dict_str, R.all_ok, selE_t, selE_f, evB_at, evP_at, r_pass, r_set, r_own, r_frz, r_unp, r_par, r_app, r_popd, r_popa, r_swp, r_expr, r_ret, r_retm, r_retn, r_ifs, r_whl, r_fr, r_brk, r_cnt, r_raise, r_nil, e_var, e_lit, e_glo, e_u, e_b, e_isi, e_slc, e_rep, e_and, e_or, e_not, e_ite, e_chn, e_chn3, ch3_at, e_qcall, nox_ok, e_mth, e_mkx, mk_index, mk_join, mk_split, m_join, e_lrng, b_divm, e_tup, e_lst, e_call, e_comp, e_bor, e_d0, e_d1, e_pget, r_pput, u_max, u_min, e_oget, e_kin, e_kget, e_kgetd, e_klen, e_sset, e_sortk, r_kput, r_ins, r_ext, r_put, r_pop, e_rev, R.all_ask, es_nil, es_cons, eo_no, eo_yes, ei_seq, ei_rng, ei_zip, ei_enm, szle0, szlt0, szle1, szlt1, szle2, szlt2, szle3, szlt3, szle4, szlt4, szle5, szlt5, szle6, szlt6, szle7, szlt7, szle8, szlt8, szle9, szlt9, szle10, szlt10, szle11, szlt11, szle12, szlt12, szle13, szlt13, szle14, szlt14, szle15, szlt15, szle16, szlt16, szle17, szlt17, szle18, szlt18, szle19, szlt19, szle20, szlt20, szle21, szlt21, szle22, szlt22, szle23, szlt23, szle24, szlt24, szle25, szlt25, szle26, szlt26, szle27, szlt27, szle28, szlt28, szle29, szlt29, szle30, szlt30, Out.wp_nx, Out.wp_rt, Out.wp_bk, Out.wp_ct, eqS_int, isS_bl, R.bind_ok, R.out_ok, Sl.pd_v, Sl.pd_l, Sl.pd_k, List.set_cons_zero, List.set_cons_succ, List.getElem?_cons_zero, List.getElem?_cons_succ, List.getElem?_nil, Option.getD_some, Option.getD_none, if_true, Bool.false_eq_true, if_false, bt_nm, bt_tup, bt_lst, bts_nil, bts_cons, wipeE, start0, List.length_cons, List.length_nil, List.replicate, List.cons_append, List.nil_append, List.map_cons, List.map_nil, Nat.reduceAdd, Nat.reduceSub, Nat.zero_add, Bool.not_true, Bool.not_false, decide_true, decide_false, cg_nil, cg_cons, bls_nil, bls_cons, tst_at, cst_at, ch2_at, w_seq, w_sel, rest_nil, Out.wp_out, isB_ok, isI_ok, PD.flat, ne_eq, not_false_eq_true, Int.reduceEq, Int.reduceToNat, Int.reducePow, Int.reduceLT, Int.reduceLE, Int.reduceMul, Int.reduceAdd, Int.reduceSub, pow9, pow16, pow18, pow57, pow60, R.all_bind, R.all_nox, all_asP, all_asB, all_asI, w_law_0, gf_law_0, gf_law_1, gf_law_2, gf_law_3, gf_law_4, gf_law_5, gf_law_6]
    refine (dr _ gx).mono ?_
    rintro _ rfl
    generalize decide (T1 = x) = b at *
    have e2 : eqS (.bl b) (.bl b) = .ok true := by rw [eqS_bl]; simp
    simp only [asP_v, asP_l, asP_k, asB_ok, asI_ok, nox_ok, b_add, b_adds, b_addt, b_addl, b_sub, b_mul, b_fdiv, b_mod, b_pow, b_eq, b_ne, b_lt, b_le, b_gt, b_ge, b_is, b_isn, b_inn, b_nin, b_idxl, b_idxt, b_max, b_min, u_neg, u_lenl, u_lent, u_abs, u_int, u_intb, u_tupl, u_tupt, u_lstl, u_lstt, u_str, u_strs, u_all, u_any, u_sum, seq_l, seq_t, seq_s, sl_l, sl_t, sl_s, is_NoneType_int, is_NoneType_bool, is_NoneType_tuple, is_NoneType_list, is_NoneType_str, is_bool_int, is_bool_bool, is_bool_tuple, is_bool_list, is_bool_str, is_int_int, is_int_bool, is_int_tuple, is_int_list, is_int_str, is_str_int, is_str_bool, is_str_tuple, is_str_list, is_str_str, is_tuple_int, is_tuple_bool, is_tuple_tuple, is_tuple_list, is_tuple_str, is_list_int, is_list_bool, is_list_tuple, is_list_list, is_list_str, is_dict_int, is_dict_bool, is_dict_tuple, is_dict_list, is_dict_str, R.all_ok, selE_t, selE_f, evB_at, evP_at, r_pass, r_set, r_own, r_frz, r_unp, r_par, r_app, r_popd, r_popa, r_swp, r_expr, r_ret, r_retm, r_retn, r_ifs, r_whl, r_fr, r_brk, r_cnt, r_raise, r_nil, e_var, e_lit, e_glo, e_u, e_b, e_isi, e_slc, e_rep, e_and, e_or, e_not, e_ite, e_chn, e_chn3, ch3_at, e_qcall, nox_ok, e_mth, e_mkx, mk_index, mk_join, mk_split, m_join, e_lrng, b_divm, e_tup, e_lst, e_call, e_comp, e_bor, e_d0, e_d1, e_pget, r_pput, u_max, u_min, e_oget, e_kin, e_kget, e_kgetd, e_klen, e_sset, e_sortk, r_kput, r_ins, r_ext, r_put, r_pop, e_rev, R.all_ask, es_nil, es_cons, eo_no, eo_yes, ei_seq, ei_rng, ei_zip, ei_enm, szle0, szlt0, szle1, szlt1, szle2, szlt2, szle3, szlt3, szle4, szlt4, szle5, szlt5, szle6, szlt6, szle7, szlt7, szle8, szlt8, szle9, szlt9, szle10, szlt10, szle11, szlt11, szle12, szlt12, szle13, szlt13, szle14, szlt14, szle15, szlt15, szle16, szlt16, szle17, szlt17, szle18, szlt18, szle19, szlt19, szle20, szlt20, szle21, szlt21, szle22, szlt22, szle23, szlt23, szle24, szlt24, szle25, szlt25, szle26, szlt26, szle27, szlt27, szle28, szlt28, szle29, szlt29, szle30, szlt30, Out.wp_nx, Out.wp_rt, Out.wp_bk, Out.wp_ct, eqS_int, isS_bl, R.bind_ok, R.out_ok, Sl.pd_v, Sl.pd_l, Sl.pd_k, List.set_cons_zero, List.set_cons_succ, List.getElem?_cons_zero, List.getElem?_cons_succ, List.getElem?_nil, Option.getD_some, Option.getD_none, if_true, Bool.false_eq_true, if_false, bt_nm, bt_tup, bt_lst, bts_nil, bts_cons, wipeE, start0, List.length_cons, List.length_nil, List.replicate, List.cons_append, List.nil_append, List.map_cons, List.map_nil, Nat.reduceAdd, Nat.reduceSub, Nat.zero_add, Bool.not_true, Bool.not_false, decide_true, decide_false, cg_nil, cg_cons, bls_nil, bls_cons, tst_at, cst_at, ch2_at, w_seq, w_sel, rest_nil, Out.wp_out, isB_ok, isI_ok, PD.flat, ne_eq, not_false_eq_true, Int.reduceEq, Int.reduceToNat, Int.reducePow, Int.reduceLT, Int.reduceLE, Int.reduceMul, Int.reduceAdd, Int.reduceSub, pow9, pow16, pow18, pow57, pow60]
    (refine Rest.mk ?_; simp only [asP_v, asP_l, asP_k, asB_ok, asI_ok, nox_ok, b_add, b_adds, b_addt, b_addl, b_sub, b_mul, b_fdiv, b_mod, b_pow, b_eq, b_ne, b_lt, b_le, b_gt, b_ge, b_is, b_isn, b_inn, b_nin, b_idxl, b_idxt, b_max, b_min, u_neg, u_lenl, u_lent, u_abs, u_int, u_intb, u_tupl, u_tupt, u_lstl, u_lstt, u_str, u_strs, u_all, u_any, u_sum, seq_l, seq_t, seq_s, sl_l, sl_t, sl_s, is_NoneType_int, is_NoneType_bool, is_NoneType_tuple, is_NoneType_list, is_NoneType_str, is_bool_int, is_bool_bool, is_bool_tuple, is_bool_list, is_bool_str, is_int_int, is_int_bool, is_int_tuple, is_int_list, is_int_str, is_str_int, is_str_bool, is_str_tuple, is_str_list, is_str_str, is_tuple_int, is_tuple_bool, is_tuple_tuple, is_tuple_list, is_tuple_str, is_list_int, is_list_bool, is_list_tuple, is_list_list, is_list_str, is_dict_int, is_dict_bool, is_dict_tuple, is_dict_list, is_dict_str, R.all_ok, selE_t, selE_f, evB_at, evP_at, r_pass, r_set, r_own, r_frz, r_unp, r_par, r_app, r_popd, r_popa, r_swp, r_expr, r_ret, r_retm, r_retn, r_ifs, r_whl, r_fr, r_brk, r_cnt, r_raise, r_nil, e_var, e_lit, e_glo, e_u, e_b, e_isi, e_slc, e_rep, e_and, e_or, e_not, e_ite, e_chn, e_chn3, ch3_at, e_qcall, nox_ok, e_mth, e_mkx, mk_index, mk_join, mk_split, m_join, e_lrng, b_divm, e_tup, e_lst, e_call, e_comp, e_bor, e_d0, e_d1, e_pget, r_pput, u_max, u_min, e_oget, e_kin, e_kget, e_kgetd, e_klen, e_sset, e_sortk, r_kput, r_ins, r_ext, r_put, r_pop, e_rev, R.all_ask, es_nil, es_cons, eo_no, eo_yes, ei_seq, ei_rng, ei_zip, ei_enm, szle0, szlt0, szle1, szlt1, szle2, szlt2, szle3, szlt3, szle4, szlt4, szle5, szlt5, szle6, szlt6, szle7, szlt7, szle8, szlt8, szle9, szlt9, szle10, szlt10, szle11, szlt11, szle12, szlt12, szle13, szlt13, szle14, szlt14, szle15, szlt15, szle16, szlt16, szle17, szlt17, szle18, szlt18, szle19, szlt19, szle20, szlt20, szle21, szlt21, szle22, szlt22, szle23, szlt23, szle24, szlt24, szle25, szlt25, szle26, szlt26, szle27, szlt27, szle28, szlt28, szle29, szlt29, szle30, szlt30, Out.wp_nx, Out.wp_rt, Out.wp_bk, Out.wp_ct, eqS_int, isS_bl, R.bind_ok, R.out_ok, Sl.pd_v, Sl.pd_l, Sl.pd_k, List.set_cons_zero, List.set_cons_succ, List.getElem?_cons_zero, List.getElem?_cons_succ, List.getElem?_nil, Option.getD_some, Option.getD_none, if_true, Bool.false_eq_true, if_false, bt_nm, bt_tup, bt_lst, bts_nil, bts_cons, wipeE, start0, List.length_cons, List.length_nil, List.replicate, List.cons_append, List.nil_append, List.map_cons, List.map_nil, Nat.reduceAdd, Nat.reduceSub, Nat.zero_add, Bool.not_true, Bool.not_false, decide_true, decide_false, cg_nil, cg_cons, bls_nil, bls_cons, tst_at, cst_at, ch2_at, w_seq, w_sel, rest_nil, Out.wp_out, isB_ok, isI_ok, PD.flat, ne_eq, not_false_eq_true, Int.reduceEq, Int.reduceToNat, Int.reducePow, Int.reduceLT, Int.reduceLE, Int.reduceMul, Int.reduceAdd, Int.reduceSub, pow9, pow16, pow18, pow57, pow60, gf_law_0, gf_law_1, gf_law_2, gf_law_3, gf_law_4, gf_law_5, gf_law_6, isi_bl, e1, e2, es, eu])
    exact ⟨fun y hm => hy y (List.mem_cons_of_mem _ hm), _, _, rfl⟩
  · rintro ρ ⟨_, o7, o8, rfl⟩
    (refine Rest.mk ?_; simp only [asP_v, asP_l, asP_k, asB_ok, asI_ok, nox_ok, b_add, b_adds, b_addt, b_addl, b_sub, b_mul, b_fdiv, b_mod, b_pow, b_eq, b_ne, b_lt, b_le, b_gt, b_ge, b_is, b_isn, b_inn, b_nin, b_idxl, b_idxt, b_max, b_min, u_neg, u_lenl, u_lent, u_abs, u_int, u_intb, u_tupl, u_tupt, u_lstl, u_lstt, u_str, u_strs, u_all, u_any, u_sum, seq_l, seq_t, seq_s, sl_l, sl_t, sl_s, is_NoneType_int, is_NoneType_bool, is_NoneType_tuple, is_NoneType_list, is_NoneType_str, is_bool_int, is_bool_bool, is_bool_tuple, is_bool_list, is_bool_str, is_int_int, is_int_bool, is_int_tuple, is_int_list, is_int_str, is_str_int, is_str_bool, is_str_tuple, is_str_list, is_str_str, is_tuple_int, is_tuple_bool, is_tuple_tuple, is_tuple_list, is_tuple_str, is_list_int, is_list_bool, is_list_tuple, is_list_list, is_list_str, is_dict_int, is_dict_bool, is_dict_tuple, is_dict_list, is_dict_str, R.all_ok, selE_t, selE_f, evB_at, evP_at, r_pass, r_set, r_own, r_frz, r_unp, r_par, r_app, r_popd, r_popa, r_swp, r_expr, r_ret, r_retm, r_retn, r_ifs, r_whl, r_fr, r_brk, r_cnt, r_raise, r_nil, e_var, e_lit, e_glo, e_u, e_b, e_isi, e_slc, e_rep, e_and, e_or, e_not, e_ite, e_chn, e_chn3, ch3_at, e_qcall, nox_ok, e_mth, e_mkx, mk_index, mk_join, mk_split, m_join, e_lrng, b_divm, e_tup, e_lst, e_call, e_comp, e_bor, e_d0, e_d1, e_pget, r_pput, u_max, u_min, e_oget, e_kin, e_kget, e_kgetd, e_klen, e_sset, e_sortk, r_kput, r_ins, r_ext, r_put, r_pop, e_rev, R.all_ask, es_nil, es_cons, eo_no, eo_yes, ei_seq, ei_rng, ei_zip, ei_enm, szle0, szlt0, szle1, szlt1, szle2, szlt2, szle3, szlt3, szle4, szlt4, szle5, szlt5, szle6, szlt6, szle7, szlt7, szle8, szlt8, szle9, szlt9, szle10, szlt10, szle11, szlt11, szle12, szlt12, szle13, szlt13, szle14, szlt14, szle15, szlt15, szle16, szlt16, szle17, szlt17, szle18, szlt18, szle19, szlt19, szle20, szlt20, szle21, szlt21, szle22, szlt22, szle23, szlt23, szle24, szlt24, szle25, szlt25, szle26, szlt26, szle27, szlt27, szle28, szlt28, szle29, szlt29, szle30, szlt30, Out.wp_nx, Out.wp_rt, Out.wp_bk, Out.wp_ct, eqS_int, isS_bl, R.bind_ok, R.out_ok, Sl.pd_v, Sl.pd_l, Sl.pd_k, List.set_cons_zero, List.set_cons_succ, List.getElem?_cons_zero, List.getElem?_cons_succ, List.getElem?_nil, Option.getD_some, Option.getD_none, if_true, Bool.false_eq_true, if_false, bt_nm, bt_tup, bt_lst, bts_nil, bts_cons, wipeE, start0, List.length_cons, List.length_nil, List.replicate, List.cons_append, List.nil_append, List.map_cons, List.map_nil, Nat.reduceAdd, Nat.reduceSub, Nat.zero_add, Bool.not_true, Bool.not_false, decide_true, decide_false, cg_nil, cg_cons, bls_nil, bls_cons, tst_at, cst_at, ch2_at, w_seq, w_sel, rest_nil, Out.wp_out, isB_ok, isI_ok, PD.flat, ne_eq, not_false_eq_true, Int.reduceEq, Int.reduceToNat, Int.reducePow, Int.reduceLT, Int.reduceLE, Int.reduceMul, Int.reduceAdd, Int.reduceSub, pow9, pow16, pow18, pow57, pow60])
    exact hN _ _ _ _
theorem cell_all (ns : List Int) (hl : ns.length ≤ 63) (k : Int) (k0 : 0 ≤ k) (k1 : k ≤ 100) (o2 o3 o4 o5 o6 o7 o8 : Option Sl) (N : En → Prop) (T : Sl → Prop) (B C : En → Prop) (hN : ∀ p1 p2 p3 p4 p5 p6 p7 p8 : Option Sl, N [some (.v (.lst (ns.map PD.int))), p1, p2, p3, p4, p5, p6, p7, p8]) :
    (FS.run g_law w_law_1 [some (.v (.lst (ns.map PD.int))), some (.v (.int k)), o2, o3, o4, o5, o6, o7, o8]).Wp N T B C := by
  have e1 := pool_eq ns hl k k0 k1
  simp only [asP_v, asP_l, asP_k, asB_ok, asI_ok, nox_ok, b_add, b_adds, b_addt, b_addl, b_sub, b_mul, b_fdiv, b_mod, b_pow, b_eq, b_ne, b_lt, b_le, b_gt, b_ge, b_is, b_isn, b_inn, b_nin, b_idxl, b_idxt, b_max, b_min, u_neg, u_lenl, u_lent, u_abs, u_int, u_intb, u_tupl, u_tupt, u_lstl, u_lstt, u_str, u_strs, u_all, u_any, u_sum, seq_l, seq_t, seq_s, sl_l, sl_t, sl_s, is_NoneType_int, is_NoneType_bool, is_NoneType_tuple, is_NoneType_list, is_NoneType_str, is_bool_int, is_bool_bool, is_bool_tuple, is_bool_list, is_bool_str, is_int_int, is_int_bool, is_int_tuple, is_int_list, is_int_str, is_str_int, is_str_bool, is_str_tuple, is_str_list, is_str_str, is_tuple_int, is_tuple_bool, is_tuple_tuple, is_tuple_list, is_tuple_str, is_list_int, is_list_bool, is_list_tuple, is_list_list, is_list_str, is_dict_int, is_dict_bool, is_dict_tuple, is_dict_list, is_dict_str, R.all_ok, selE_t, selE_f, evB_at, evP_at, r_pass, r_set, r_own, r_frz, r_unp, r_par, r_app, r_popd, r_popa, r_swp, r_expr, r_ret, r_retm, r_retn, r_ifs, r_whl, r_fr, r_brk, r_cnt, r_raise, r_nil, e_var, e_lit, e_glo, e_u, e_b, e_isi, e_slc, e_rep, e_and, e_or, e_not, e_ite, e_chn, e_chn3, ch3_at, e_qcall, nox_ok, e_mth, e_mkx, mk_index, mk_join, mk_split, m_join, e_lrng, b_divm, e_tup, e_lst, e_call, e_comp, e_bor, e_d0, e_d1, e_pget, r_pput, u_max, u_min, e_oget, e_kin, e_kget, e_kgetd, e_klen, e_sset, e_sortk, r_kput, r_ins, r_ext, r_put, r_pop, e_rev, R.all_ask, es_nil, es_cons, eo_no, eo_yes, ei_seq, ei_rng, ei_zip, ei_enm, szle0, szlt0, szle1, szlt1, szle2, szlt2, szle3, szlt3, szle4, szlt4, szle5, szlt5, szle6, szlt6, szle7, szlt7, szle8, szlt8, szle9, szlt9, szle10, szlt10, szle11, szlt11, szle12, szlt12, szle13, szlt13, szle14, szlt14, szle15, szlt15, szle16, szlt16, szle17, szlt17, szle18, szlt18, szle19, szlt19, szle20, szlt20, szle21, szlt21, szle22, szlt22, szle23, szlt23, szle24, szlt24, szle25, szlt25, szle26, szlt26, szle27, szlt27, szle28, szlt28, szle29, szlt29, szle30, szlt30, Out.wp_nx, Out.wp_rt, Out.wp_bk, Out.wp_ct, eqS_int, isS_bl, R.bind_ok, R.out_ok, Sl.pd_v, Sl.pd_l, Sl.pd_k, List.set_cons_zero, List.set_cons_succ, List.getElem?_cons_zero, List.getElem?_cons_succ, List.getElem?_nil, Option.getD_some, Option.getD_none, if_true, Bool.false_eq_true, if_false, bt_nm, bt_tup, bt_lst, bts_nil, bts_cons, wipeE, start0, List.length_cons, List.length_nil, List.replicate, List.cons_append, List.nil_append, List.map_cons, List.map_nil, Nat.reduceAdd, Nat.reduceSub, Nat.zero_add, Bool.not_true, Bool.not_false, decide_true, decide_false, cg_nil, cg_cons, bls_nil, bls_cons, tst_at, cst_at, ch2_at, w_seq, w_sel, rest_nil, Out.wp_out, isB_ok, isI_ok, PD.flat, ne_eq, not_false_eq_true, Int.reduceEq, Int.reduceToNat, Int.reducePow, Int.reduceLT, Int.reduceLE, Int.reduceMul, Int.reduceAdd, Int.reduceSub, pow9, pow16, pow18, pow57, pow60, R.all_bind, R.all_nox, all_asP, all_asB, all_asI, w_law_1, gf_law_0, gf_law_1, gf_law_2, gf_law_3, gf_law_4, gf_law_5, gf_law_6, e1]
  (refine Rest.mk ?_; simp only [asP_v, asP_l, asP_k, asB_ok, asI_ok, nox_ok, b_add, b_adds, b_addt, b_addl, b_sub, b_mul, b_fdiv, b_mod, b_pow, b_eq, b_ne, b_lt, b_le, b_gt, b_ge, b_is, b_isn, b_inn, b_nin, b_idxl, b_idxt, b_max, b_min, u_neg, u_lenl, u_lent, u_abs, u_int, u_intb, u_tupl, u_tupt, u_lstl, u_lstt, u_str, u_strs, u_all, u_any, u_sum, seq_l, seq_t, seq_s, sl_l, sl_t, sl_s, is_NoneType_int, is_NoneType_bool, is_NoneType_tuple, is_NoneType_list, is_NoneType_str, is_bool_int, is_bool_bool, is_bool_tuple, is_bool_list, is_bool_str, is_int_int, is_int_bool, is_int_tuple, is_int_list, is_int_str, is_str_int, is_str_bool, is_str_tuple, is_str_list, is_str_str, is_tuple_int, is_tuple_bool, is_tuple_tuple, is_tuple_list, is_tuple_str, is_list_int, is_list_bool, is_list_tuple, is_list_list, is_list_str, is_dict_int, is_dict_bool, is_dict_tuple, is_dict_list, is_dict_str, R.all_ok, selE_t, selE_f, evB_at, evP_at, r_pass, r_set, r_own, r_frz, r_unp, r_par, r_app, r_popd, r_popa, r_swp, r_expr, r_ret, r_retm, r_retn, r_ifs, r_whl, r_fr, r_brk, r_cnt, r_raise, r_nil, e_var, e_lit, e_glo, e_u, e_b, e_isi, e_slc, e_rep, e_and, e_or, e_not, e_ite, e_chn, e_chn3, ch3_at, e_qcall, nox_ok, e_mth, e_mkx, mk_index, mk_join, mk_split, m_join, e_lrng, b_divm, e_tup, e_lst, e_call, e_comp, e_bor, e_d0, e_d1, e_pget, r_pput, u_max, u_min, e_oget, e_kin, e_kget, e_kgetd, e_klen, e_sset, e_sortk, r_kput, r_ins, r_ext, r_put, r_pop, e_rev, R.all_ask, es_nil, es_cons, eo_no, eo_yes, ei_seq, ei_rng, ei_zip, ei_enm, szle0, szlt0, szle1, szlt1, szle2, szlt2, szle3, szlt3, szle4, szlt4, szle5, szlt5, szle6, szlt6, szle7, szlt7, szle8, szlt8, szle9, szlt9, szle10, szlt10, szle11, szlt11, szle12, szlt12, szle13, szlt13, szle14, szlt14, szle15, szlt15, szle16, szlt16, szle17, szlt17, szle18, szlt18, szle19, szlt19, szle20, szlt20, szle21, szlt21, szle22, szlt22, szle23, szlt23, szle24, szlt24, szle25, szlt25, szle26, szlt26, szle27, szlt27, szle28, szlt28, szle29, szlt29, szle30, szlt30, Out.wp_nx, Out.wp_rt, Out.wp_bk, Out.wp_ct, eqS_int, isS_bl, R.bind_ok, R.out_ok, Sl.pd_v, Sl.pd_l, Sl.pd_k, List.set_cons_zero, List.set_cons_succ, List.getElem?_cons_zero, List.getElem?_cons_succ, List.getElem?_nil, Option.getD_some, Option.getD_none, if_true, Bool.false_eq_true, if_false, bt_nm, bt_tup, bt_lst, bts_nil, bts_cons, wipeE, start0, List.length_cons, List.length_nil, List.replicate, List.cons_append, List.nil_append, List.map_cons, List.map_nil, Nat.reduceAdd, Nat.reduceSub, Nat.zero_add, Bool.not_true, Bool.not_false, decide_true, decide_false, cg_nil, cg_cons, bls_nil, bls_cons, tst_at, cst_at, ch2_at, w_seq, w_sel, rest_nil, Out.wp_out, isB_ok, isI_ok, PD.flat, ne_eq, not_false_eq_true, Int.reduceEq, Int.reduceToNat, Int.reducePow, Int.reduceLT, Int.reduceLE, Int.reduceMul, Int.reduceAdd, Int.reduceSub, pow9, pow16, pow18, pow57, pow60, gf_law_0, gf_law_1, gf_law_2, gf_law_3, gf_law_4, gf_law_5, gf_law_6, R.all_bind, R.all_nox, all_asP, all_asB, all_asI])
  refine row_all _ fun ms rs hb => ?_
  simp only [asP_v, asP_l, asP_k, asB_ok, asI_ok, nox_ok, b_add, b_adds, b_addt, b_addl, b_sub, b_mul, b_fdiv, b_mod, b_pow, b_eq, b_ne, b_lt, b_le, b_gt, b_ge, b_is, b_isn, b_inn, b_nin, b_idxl, b_idxt, b_max, b_min, u_neg, u_lenl, u_lent, u_abs, u_int, u_intb, u_tupl, u_tupt, u_lstl, u_lstt, u_str, u_strs, u_all, u_any, u_sum, seq_l, seq_t, seq_s, sl_l, sl_t, sl_s, is_NoneType_int, is_NoneType_bool, is_NoneType_tuple, is_NoneType_list, is_NoneType_str, is_bool_int, is_bool_bool, is_bool_tuple, is_bool_list, is_bool_str, is_int_int, is_int_bool, is_int_tuple, is_int_list, is_int_str, is_str_int, is_str_bool, is_str_tuple, is_str_list, is_str_str, is_tuple_int, is_tuple_bool, is_tuple_tuple, is_tuple_list, is_tuple_str, is_list_int, is_list_bool, is_list_tuple, is_list_list, is_list_str, is_dict_int, is_dict_bool, is_dict_tuple, is_dict_list, is_dict_str, R.all_ok, selE_t, selE_f, evB_at, evP_at, r_pass, r_set, r_own, r_frz, r_unp, r_par, r_app, r_popd, r_popa, r_swp, r_expr, r_ret, r_retm, r_retn, r_ifs, r_whl, r_fr, r_brk, r_cnt, r_raise, r_nil, e_var, e_lit, e_glo, e_u, e_b, e_isi, e_slc, e_rep, e_and, e_or, e_not, e_ite, e_chn, e_chn3, ch3_at, e_qcall, nox_ok, e_mth, e_mkx, mk_index, mk_join, mk_split, m_join, e_lrng, b_divm, e_tup, e_lst, e_call, e_comp, e_bor, e_d0, e_d1, e_pget, r_pput, u_max, u_min, e_oget, e_kin, e_kget, e_kgetd, e_klen, e_sset, e_sortk, r_kput, r_ins, r_ext, r_put, r_pop, e_rev, R.all_ask, es_nil, es_cons, eo_no, eo_yes, ei_seq, ei_rng, ei_zip, ei_enm, szle0, szlt0, szle1, szlt1, szle2, szlt2, szle3, szlt3, szle4, szlt4, szle5, szlt5, szle6, szlt6, szle7, szlt7, szle8, szlt8, szle9, szlt9, szle10, szlt10, szle11, szlt11, szle12, szlt12, szle13, szlt13, szle14, szlt14, szle15, szlt15, szle16, szlt16, szle17, szlt17, szle18, szlt18, szle19, szlt19, szle20, szlt20, szle21, szlt21, szle22, szlt22, szle23, szlt23, szle24, szlt24, szle25, szlt25, szle26, szlt26, szle27, szlt27, szle28, szlt28, szle29, szlt29, szle30, szlt30, Out.wp_nx, Out.wp_rt, Out.wp_bk, Out.wp_ct, eqS_int, isS_bl, R.bind_ok, R.out_ok, Sl.pd_v, Sl.pd_l, Sl.pd_k, List.set_cons_zero, List.set_cons_succ, List.getElem?_cons_zero, List.getElem?_cons_succ, List.getElem?_nil, Option.getD_some, Option.getD_none, if_true, Bool.false_eq_true, if_false, bt_nm, bt_tup, bt_lst, bts_nil, bts_cons, wipeE, start0, List.length_cons, List.length_nil, List.replicate, List.cons_append, List.nil_append, List.map_cons, List.map_nil, Nat.reduceAdd, Nat.reduceSub, Nat.zero_add, Bool.not_true, Bool.not_false, decide_true, decide_false, cg_nil, cg_cons, bls_nil, bls_cons, tst_at, cst_at, ch2_at, w_seq, w_sel, rest_nil, Out.wp_out, isB_ok, isI_ok, PD.flat, ne_eq, not_false_eq_true, Int.reduceEq, Int.reduceToNat, Int.reducePow, Int.reduceLT, Int.reduceLE, Int.reduceMul, Int.reduceAdd, Int.reduceSub, pow9, pow16, pow18, pow57, pow60]
  (refine Rest.mk ?_; simp only [asP_v, asP_l, asP_k, asB_ok, asI_ok, nox_ok, b_add, b_adds, b_addt, b_addl, b_sub, b_mul, b_fdiv, b_mod, b_pow, b_eq, b_ne, b_lt, b_le, b_gt, b_ge, b_is, b_isn, b_inn, b_nin, b_idxl, b_idxt, b_max, b_min, u_neg, u_lenl, u_lent, u_abs, u_int, u_intb, u_tupl, u_tupt, u_lstl, u_lstt, u_str, u_strs, u_all, u_any, u_sum, seq_l, seq_t, seq_s, sl_l, sl_t, sl_s, is_NoneType_int, is_NoneType_bool, is_NoneType_tuple, is_NoneType_list, is_NoneType_str, is_bool_int, is_bool_bool, is_bool_tuple, is_bool_list, is_bool_str, is_int_int, is_int_bool, is_int_tuple, is_int_list, is_int_str, is_str_int, is_str_bool, is_str_tuple, is_str_list, is_str_str, is_tuple_int, is_tuple_bool, is_tuple_tuple, is_tuple_list, is_tuple_str, is_list_int, is_list_bool, is_list_tuple, is_list_list, is_list_str, is_dict_int, is_dict_bool, is_dict_tuple, is_dict_list, is_dict_str, R.all_ok, selE_t, selE_f, evB_at, evP_at, r_pass, r_set, r_own, r_frz, r_unp, r_par, r_app, r_popd, r_popa, r_swp, r_expr, r_ret, r_retm, r_retn, r_ifs, r_whl, r_fr, r_brk, r_cnt, r_raise, r_nil, e_var, e_lit, e_glo, e_u, e_b, e_isi, e_slc, e_rep, e_and, e_or, e_not, e_ite, e_chn, e_chn3, ch3_at, e_qcall, nox_ok, e_mth, e_mkx, mk_index, mk_join, mk_split, m_join, e_lrng, b_divm, e_tup, e_lst, e_call, e_comp, e_bor, e_d0, e_d1, e_pget, r_pput, u_max, u_min, e_oget, e_kin, e_kget, e_kgetd, e_klen, e_sset, e_sortk, r_kput, r_ins, r_ext, r_put, r_pop, e_rev, R.all_ask, es_nil, es_cons, eo_no, eo_yes, ei_seq, ei_rng, ei_zip, ei_enm, szle0, szlt0, szle1, szlt1, szle2, szlt2, szle3, szlt3, szle4, szlt4, szle5, szlt5, szle6, szlt6, szle7, szlt7, szle8, szlt8, szle9, szlt9, szle10, szlt10, szle11, szlt11, szle12, szlt12, szle13, szlt13, szle14, szlt14, szle15, szlt15, szle16, szlt16, szle17, szlt17, szle18, szlt18, szle19, szlt19, szle20, szlt20, szle21, szlt21, szle22, szlt22, szle23, szlt23, szle24, szlt24, szle25, szlt25, szle26, szlt26, szle27, szlt27, szle28, szlt28, szle29, szlt29, szle30, szlt30, Out.wp_nx, Out.wp_rt, Out.wp_bk, Out.wp_ct, eqS_int, isS_bl, R.bind_ok, R.out_ok, Sl.pd_v, Sl.pd_l, Sl.pd_k, List.set_cons_zero, List.set_cons_succ, List.getElem?_cons_zero, List.getElem?_cons_succ, List.getElem?_nil, Option.getD_some, Option.getD_none, if_true, Bool.false_eq_true, if_false, bt_nm, bt_tup, bt_lst, bts_nil, bts_cons, wipeE, start0, List.length_cons, List.length_nil, List.replicate, List.cons_append, List.nil_append, List.map_cons, List.map_nil, Nat.reduceAdd, Nat.reduceSub, Nat.zero_add, Bool.not_true, Bool.not_false, decide_true, decide_false, cg_nil, cg_cons, bls_nil, bls_cons, tst_at, cst_at, ch2_at, w_seq, w_sel, rest_nil, Out.wp_out, isB_ok, isI_ok, PD.flat, ne_eq, not_false_eq_true, Int.reduceEq, Int.reduceToNat, Int.reducePow, Int.reduceLT, Int.reduceLE, Int.reduceMul, Int.reduceAdd, Int.reduceSub, pow9, pow16, pow18, pow57, pow60, gf_law_0, gf_law_1, gf_law_2, gf_law_3, gf_law_4, gf_law_5, gf_law_6, R.all_bind, R.all_nox, all_asP, all_asB, all_asI])
  refine row_all _ fun ms2 rs2 hb2 => ?_
  simp only [asP_v, asP_l, asP_k, asB_ok, asI_ok, nox_ok, b_add, b_adds, b_addt, b_addl, b_sub, b_mul, b_fdiv, b_mod, b_pow, b_eq, b_ne, b_lt, b_le, b_gt, b_ge, b_is, b_isn, b_inn, b_nin, b_idxl, b_idxt, b_max, b_min, u_neg, u_lenl, u_lent, u_abs, u_int, u_intb, u_tupl, u_tupt, u_lstl, u_lstt, u_str, u_strs, u_all, u_any, u_sum, seq_l, seq_t, seq_s, sl_l, sl_t, sl_s, is_NoneType_int, is_NoneType_bool, is_NoneType_tuple, is_NoneType_list, is_NoneType_str, is_bool_int, is_bool_bool, is_bool_tuple, is_bool_list, is_bool_str, is_int_int, is_int_bool, is_int_tuple, is_int_list, is_int_str, is_str_int, is_str_bool, is_str_tuple, is_str_list, is_str_str, is_tuple_int, is_tuple_bool, is_tuple_tuple, is_tuple_list, is_tuple_str, is_list_int, is_list_bool, is_list_tuple, is_list_list, is_list_str, is_dict_int, is_dict_bool, is_dict_tuple, is_dict_list, is_dict_str, R.all_ok, selE_t, selE_f, evB_at, evP_at, r_pass, r_set, r_own, r_frz, r_unp, r_par, r_app, r_popd, r_popa, r_swp, r_expr, r_ret, r_retm, r_retn, r_ifs, r_whl, r_fr, r_brk, r_cnt, r_raise, r_nil, e_var, e_lit, e_glo, e_u, e_b, e_isi, e_slc, e_rep, e_and, e_or, e_not, e_ite, e_chn, e_chn3, ch3_at, e_qcall, nox_ok, e_mth, e_mkx, mk_index, mk_join, mk_split, m_join, e_lrng, b_divm, e_tup, e_lst, e_call, e_comp, e_bor, e_d0, e_d1, e_pget, r_pput, u_max, u_min, e_oget, e_kin, e_kget, e_kgetd, e_klen, e_sset, e_sortk, r_kput, r_ins, r_ext, r_put, r_pop, e_rev, R.all_ask, es_nil, es_cons, eo_no, eo_yes, ei_seq, ei_rng, ei_zip, ei_enm, szle0, szlt0, szle1, szlt1, szle2, szlt2, szle3, szlt3, szle4, szlt4, szle5, szlt5, szle6, szlt6, szle7, szlt7, szle8, szlt8, szle9, szlt9, szle10, szlt10, szle11, szlt11, szle12, szlt12, szle13, szlt13, szle14, szlt14, szle15, szlt15, szle16, szlt16, szle17, szlt17, szle18, szlt18, szle19, szlt19, szle20, szlt20, szle21, szlt21, szle22, szlt22, szle23, szlt23, szle24, szlt24, szle25, szlt25, szle26, szlt26, szle27, szlt27, szle28, szlt28, szle29, szlt29, szle30, szlt30, Out.wp_nx, Out.wp_rt, Out.wp_bk, Out.wp_ct, eqS_int, isS_bl, R.bind_ok, R.out_ok, Sl.pd_v, Sl.pd_l, Sl.pd_k, List.set_cons_zero, List.set_cons_succ, List.getElem?_cons_zero, List.getElem?_cons_succ, List.getElem?_nil, Option.getD_some, Option.getD_none, if_true, Bool.false_eq_true, if_false, bt_nm, bt_tup, bt_lst, bts_nil, bts_cons, wipeE, start0, List.length_cons, List.length_nil, List.replicate, List.cons_append, List.nil_append, List.map_cons, List.map_nil, Nat.reduceAdd, Nat.reduceSub, Nat.zero_add, Bool.not_true, Bool.not_false, decide_true, decide_false, cg_nil, cg_cons, bls_nil, bls_cons, tst_at, cst_at, ch2_at, w_seq, w_sel, rest_nil, Out.wp_out, isB_ok, isI_ok, PD.flat, ne_eq, not_false_eq_true, Int.reduceEq, Int.reduceToNat, Int.reducePow, Int.reduceLT, Int.reduceLE, Int.reduceMul, Int.reduceAdd, Int.reduceSub, pow9, pow16, pow18, pow57, pow60]
  refine bent_all hb _ fun ks hk hks => ?_
  simp only [asP_v, asP_l, asP_k, asB_ok, asI_ok, nox_ok, b_add, b_adds, b_addt, b_addl, b_sub, b_mul, b_fdiv, b_mod, b_pow, b_eq, b_ne, b_lt, b_le, b_gt, b_ge, b_is, b_isn, b_inn, b_nin, b_idxl, b_idxt, b_max, b_min, u_neg, u_lenl, u_lent, u_abs, u_int, u_intb, u_tupl, u_tupt, u_lstl, u_lstt, u_str, u_strs, u_all, u_any, u_sum, seq_l, seq_t, seq_s, sl_l, sl_t, sl_s, is_NoneType_int, is_NoneType_bool, is_NoneType_tuple, is_NoneType_list, is_NoneType_str, is_bool_int, is_bool_bool, is_bool_tuple, is_bool_list, is_bool_str, is_int_int, is_int_bool, is_int_tuple, is_int_list, is_int_str, is_str_int, is_str_bool, is_str_tuple, is_str_list, is_str_str, is_tuple_int, is_tuple_bool, is_tuple_tuple, is_tuple_list, is_tuple_str, is_list_int, is_list_bool, is_list_tuple, is_list_list, is_list_str, is_dict_int, is_dict_bool, is_dict_tuple, is_dict_list, is_dict_str, R.all_ok, selE_t, selE_f, evB_at, evP_at, r_pass, r_set, r_own, r_frz, r_unp, r_par, r_app, r_popd, r_popa, r_swp, r_expr, r_ret, r_retm, r_retn, r_ifs, r_whl, r_fr, r_brk, r_cnt, r_raise, r_nil, e_var, e_lit, e_glo, e_u, e_b, e_isi, e_slc, e_rep, e_and, e_or, e_not, e_ite, e_chn, e_chn3, ch3_at, e_qcall, nox_ok, e_mth, e_mkx, mk_index, mk_join, mk_split, m_join, e_lrng, b_divm, e_tup, e_lst, e_call, e_comp, e_bor, e_d0, e_d1, e_pget, r_pput, u_max, u_min, e_oget, e_kin, e_kget, e_kgetd, e_klen, e_sset, e_sortk, r_kput, r_ins, r_ext, r_put, r_pop, e_rev, R.all_ask, es_nil, es_cons, eo_no, eo_yes, ei_seq, ei_rng, ei_zip, ei_enm, szle0, szlt0, szle1, szlt1, szle2, szlt2, szle3, szlt3, szle4, szlt4, szle5, szlt5, szle6, szlt6, szle7, szlt7, szle8, szlt8, szle9, szlt9, szle10, szlt10, szle11, szlt11, szle12, szlt12, szle13, szlt13, szle14, szlt14, szle15, szlt15, szle16, szlt16, szle17, szlt17, szle18, szlt18, szle19, szlt19, szle20, szlt20, szle21, szlt21, szle22, szlt22, szle23, szlt23, szle24, szlt24, szle25, szlt25, szle26, szlt26, szle27, szlt27, szle28, szlt28, szle29, szlt29, szle30, szlt30, Out.wp_nx, Out.wp_rt, Out.wp_bk, Out.wp_ct, eqS_int, isS_bl, R.bind_ok, R.out_ok, Sl.pd_v, Sl.pd_l, Sl.pd_k, List.set_cons_zero, List.set_cons_succ, List.getElem?_cons_zero, List.getElem?_cons_succ, List.getElem?_nil, Option.getD_some, Option.getD_none, if_true, Bool.false_eq_true, if_false, bt_nm, bt_tup, bt_lst, bts_nil, bts_cons, wipeE, start0, List.length_cons, List.length_nil, List.replicate, List.cons_append, List.nil_append, List.map_cons, List.map_nil, Nat.reduceAdd, Nat.reduceSub, Nat.zero_add, Bool.not_true, Bool.not_false, decide_true, decide_false, cg_nil, cg_cons, bls_nil, bls_cons, tst_at, cst_at, ch2_at, w_seq, w_sel, rest_nil, Out.wp_out, isB_ok, isI_ok, PD.flat, ne_eq, not_false_eq_true, Int.reduceEq, Int.reduceToNat, Int.reducePow, Int.reduceLT, Int.reduceLE, Int.reduceMul, Int.reduceAdd, Int.reduceSub, pow9, pow16, pow18, pow57, pow60]
  refine take_all _ (by decide) (by decide) _ fun c c0 c1 => ?_
  have ex : c = 0 ∨ c = 1 ∨ c = 2 := by omega
  rcases ex with rfl | rfl | rfl
  · have a : atI [Row ms2 rs2, Row ms rs, Row ks rs] 0 = some (Row ms2 rs2) := rfl
    simp only [asP_v, asP_l, asP_k, asB_ok, asI_ok, nox_ok, b_add, b_adds, b_addt, b_addl, b_sub, b_mul, b_fdiv, b_mod, b_pow, b_eq, b_ne, b_lt, b_le, b_gt, b_ge, b_is, b_isn, b_inn, b_nin, b_idxl, b_idxt, b_max, b_min, u_neg, u_lenl, u_lent, u_abs, u_int, u_intb, u_tupl, u_tupt, u_lstl, u_lstt, u_str, u_strs, u_all, u_any, u_sum, seq_l, seq_t, seq_s, sl_l, sl_t, sl_s, is_NoneType_int, is_NoneType_bool, is_NoneType_tuple, is_NoneType_list, is_NoneType_str, is_bool_int, is_bool_bool, is_bool_tuple, is_bool_list, is_bool_str, is_int_int, is_int_bool, is_int_tuple, is_int_list, is_int_str, is_str_int, is_str_bool, is_str_tuple, is_str_list, is_str_str, is_tuple_int, is_tuple_bool, is_tuple_tuple, is_tuple_list, is_tuple_str, is_list_int, is_list_bool, is_list_tuple, is_list_list, is_list_str, is_dict_int, is_dict_bool, is_dict_tuple, is_dict_list, is_dict_str, R.all_ok, selE_t, selE_f, evB_at, evP_at, r_pass, r_set, r_own, r_frz, r_unp, r_par, r_app, r_popd, r_popa, r_swp, r_expr, r_ret, r_retm, r_retn, r_ifs, r_whl, r_fr, r_brk, r_cnt, r_raise, r_nil, e_var, e_lit, e_glo, e_u, e_b, e_isi, e_slc, e_rep, e_and, e_or, e_not, e_ite, e_chn, e_chn3, ch3_at, e_qcall, nox_ok, e_mth, e_mkx, mk_index, mk_join, mk_split, m_join, e_lrng, b_divm, e_tup, e_lst, e_call, e_comp, e_bor, e_d0, e_d1, e_pget, r_pput, u_max, u_min, e_oget, e_kin, e_kget, e_kgetd, e_klen, e_sset, e_sortk, r_kput, r_ins, r_ext, r_put, r_pop, e_rev, R.all_ask, es_nil, es_cons, eo_no, eo_yes, ei_seq, ei_rng, ei_zip, ei_enm, szle0, szlt0, szle1, szlt1, szle2, szlt2, szle3, szlt3, szle4, szlt4, szle5, szlt5, szle6, szlt6, szle7, szlt7, szle8, szlt8, szle9, szlt9, szle10, szlt10, szle11, szlt11, szle12, szlt12, szle13, szlt13, szle14, szlt14, szle15, szlt15, szle16, szlt16, szle17, szlt17, szle18, szlt18, szle19, szlt19, szle20, szlt20, szle21, szlt21, szle22, szlt22, szle23, szlt23, szle24, szlt24, szle25, szlt25, szle26, szlt26, szle27, szlt27, szle28, szlt28, szle29, szlt29, szle30, szlt30, Out.wp_nx, Out.wp_rt, Out.wp_bk, Out.wp_ct, eqS_int, isS_bl, R.bind_ok, R.out_ok, Sl.pd_v, Sl.pd_l, Sl.pd_k, List.set_cons_zero, List.set_cons_succ, List.getElem?_cons_zero, List.getElem?_cons_succ, List.getElem?_nil, Option.getD_some, Option.getD_none, if_true, Bool.false_eq_true, if_false, bt_nm, bt_tup, bt_lst, bts_nil, bts_cons, wipeE, start0, List.length_cons, List.length_nil, List.replicate, List.cons_append, List.nil_append, List.map_cons, List.map_nil, Nat.reduceAdd, Nat.reduceSub, Nat.zero_add, Bool.not_true, Bool.not_false, decide_true, decide_false, cg_nil, cg_cons, bls_nil, bls_cons, tst_at, cst_at, ch2_at, w_seq, w_sel, rest_nil, Out.wp_out, isB_ok, isI_ok, PD.flat, ne_eq, not_false_eq_true, Int.reduceEq, Int.reduceToNat, Int.reducePow, Int.reduceLT, Int.reduceLE, Int.reduceMul, Int.reduceAdd, Int.reduceSub, pow9, pow16, pow18, pow57, pow60, a]
    exact tail_all _ _ hb.ok (fun x hx => by have := hb.bm x hx; omega) (fun x hx => by have := hb.br x hx; omega) hb2.ok (fun x hx => by have := hb2.bm x hx; omega) (fun x hx => by have := hb2.br x hx; omega) _ _ _ _ _ _ _ _ fun p5 p6 p7 p8 => hN _ _ _ _ _ _ _ _
  · have a : atI [Row ms2 rs2, Row ms rs, Row ks rs] 1 = some (Row ms rs) := rfl
    simp only [asP_v, asP_l, asP_k, asB_ok, asI_ok, nox_ok, b_add, b_adds, b_addt, b_addl, b_sub, b_mul, b_fdiv, b_mod, b_pow, b_eq, b_ne, b_lt, b_le, b_gt, b_ge, b_is, b_isn, b_inn, b_nin, b_idxl, b_idxt, b_max, b_min, u_neg, u_lenl, u_lent, u_abs, u_int, u_intb, u_tupl, u_tupt, u_lstl, u_lstt, u_str, u_strs, u_all, u_any, u_sum, seq_l, seq_t, seq_s, sl_l, sl_t, sl_s, is_NoneType_int, is_NoneType_bool, is_NoneType_tuple, is_NoneType_list, is_NoneType_str, is_bool_int, is_bool_bool, is_bool_tuple, is_bool_list, is_bool_str, is_int_int, is_int_bool, is_int_tuple, is_int_list, is_int_str, is_str_int, is_str_bool, is_str_tuple, is_str_list, is_str_str, is_tuple_int, is_tuple_bool, is_tuple_tuple, is_tuple_list, is_tuple_str, is_list_int, is_list_bool, is_list_tuple, is_list_list, is_list_str, is_dict_int, is_dict_bool, is_dict_tuple, is_dict_list, is_dict_str, R.all_ok, selE_t, selE_f, evB_at, evP_at, r_pass, r_set, r_own, r_frz, r_unp, r_par, r_app, r_popd, r_popa, r_swp, r_expr, r_ret, r_retm, r_retn, r_ifs, r_whl, r_fr, r_brk, r_cnt, r_raise, r_nil, e_var, e_lit, e_glo, e_u, e_b, e_isi, e_slc, e_rep, e_and, e_or, e_not, e_ite, e_chn, e_chn3, ch3_at, e_qcall, nox_ok, e_mth, e_mkx, mk_index, mk_join, mk_split, m_join, e_lrng, b_divm, e_tup, e_lst, e_call, e_comp, e_bor, e_d0, e_d1, e_pget, r_pput, u_max, u_min, e_oget, e_kin, e_kget, e_kgetd, e_klen, e_sset, e_sortk, r_kput, r_ins, r_ext, r_put, r_pop, e_rev, R.all_ask, es_nil, es_cons, eo_no, eo_yes, ei_seq, ei_rng, ei_zip, ei_enm, szle0, szlt0, szle1, szlt1, szle2, szlt2, szle3, szlt3, szle4, szlt4, szle5, szlt5, szle6, szlt6, szle7, szlt7, szle8, szlt8, szle9, szlt9, szle10, szlt10, szle11, szlt11, szle12, szlt12, szle13, szlt13, szle14, szlt14, szle15, szlt15, szle16, szlt16, szle17, szlt17, szle18, szlt18, szle19, szlt19, szle20, szlt20, szle21, szlt21, szle22, szlt22, szle23, szlt23, szle24, szlt24, szle25, szlt25, szle26, szlt26, szle27, szlt27, szle28, szlt28, szle29, szlt29, szle30, szlt30, Out.wp_nx, Out.wp_rt, Out.wp_bk, Out.wp_ct, eqS_int, isS_bl, R.bind_ok, R.out_ok, Sl.pd_v, Sl.pd_l, Sl.pd_k, List.set_cons_zero, List.set_cons_succ, List.getElem?_cons_zero, List.getElem?_cons_succ, List.getElem?_nil, Option.getD_some, Option.getD_none, if_true, Bool.false_eq_true, if_false, bt_nm, bt_tup, bt_lst, bts_nil, bts_cons, wipeE, start0, List.length_cons, List.length_nil, List.replicate, List.cons_append, List.nil_append, List.map_cons, List.map_nil, Nat.reduceAdd, Nat.reduceSub, Nat.zero_add, Bool.not_true, Bool.not_false, decide_true, decide_false, cg_nil, cg_cons, bls_nil, bls_cons, tst_at, cst_at, ch2_at, w_seq, w_sel, rest_nil, Out.wp_out, isB_ok, isI_ok, PD.flat, ne_eq, not_false_eq_true, Int.reduceEq, Int.reduceToNat, Int.reducePow, Int.reduceLT, Int.reduceLE, Int.reduceMul, Int.reduceAdd, Int.reduceSub, pow9, pow16, pow18, pow57, pow60, a]
    exact tail_all _ _ hb.ok (fun x hx => by have := hb.bm x hx; omega) (fun x hx => by have := hb.br x hx; omega) hb.ok (fun x hx => by have := hb.bm x hx; omega) (fun x hx => by have := hb.br x hx; omega) _ _ _ _ _ _ _ _ fun p5 p6 p7 p8 => hN _ _ _ _ _ _ _ _
  · have a : atI [Row ms2 rs2, Row ms rs, Row ks rs] 2 = some (Row ks rs) := rfl
    simp only [asP_v, asP_l, asP_k, asB_ok, asI_ok, nox_ok, b_add, b_adds, b_addt, b_addl, b_sub, b_mul, b_fdiv, b_mod, b_pow, b_eq, b_ne, b_lt, b_le, b_gt, b_ge, b_is, b_isn, b_inn, b_nin, b_idxl, b_idxt, b_max, b_min, u_neg, u_lenl, u_lent, u_abs, u_int, u_intb, u_tupl, u_tupt, u_lstl, u_lstt, u_str, u_strs, u_all, u_any, u_sum, seq_l, seq_t, seq_s, sl_l, sl_t, sl_s, is_NoneType_int, is_NoneType_bool, is_NoneType_tuple, is_NoneType_list, is_NoneType_str, is_bool_int, is_bool_bool, is_bool_tuple, is_bool_list, is_bool_str, is_int_int, is_int_bool, is_int_tuple, is_int_list, is_int_str, is_str_int, is_str_bool, is_str_tuple, is_str_list, is_str_str, is_tuple_int, is_tuple_bool, is_tuple_tuple, is_tuple_list, is_tuple_str, is_list_int, is_list_bool, is_list_tuple, is_list_list, is_list_str, is_dict_int, is_dict_bool, is_dict_tuple, is_dict_list, is_dict_str, R.all_ok, selE_t, selE_f, evB_at, evP_at, r_pass, r_set, r_own, r_frz, r_unp, r_par, r_app, r_popd, r_popa, r_swp, r_expr, r_ret, r_retm, r_retn, r_ifs, r_whl, r_fr, r_brk, r_cnt, r_raise, r_nil, e_var, e_lit, e_glo, e_u, e_b, e_isi, e_slc, e_rep, e_and, e_or, e_not, e_ite, e_chn, e_chn3, ch3_at, e_qcall, nox_ok, e_mth, e_mkx, mk_index, mk_join, mk_split, m_join, e_lrng, b_divm, e_tup, e_lst, e_call, e_comp, e_bor, e_d0, e_d1, e_pget, r_pput, u_max, u_min, e_oget, e_kin, e_kget, e_kgetd, e_klen, e_sset, e_sortk, r_kput, r_ins, r_ext, r_put, r_pop, e_rev, R.all_ask, es_nil, es_cons, eo_no, eo_yes, ei_seq, ei_rng, ei_zip, ei_enm, szle0, szlt0, szle1, szlt1, szle2, szlt2, szle3, szlt3, szle4, szlt4, szle5, szlt5, szle6, szlt6, szle7, szlt7, szle8, szlt8, szle9, szlt9, szle10, szlt10, szle11, szlt11, szle12, szlt12, szle13, szlt13, szle14, szlt14, szle15, szlt15, szle16, szlt16, szle17, szlt17, szle18, szlt18, szle19, szlt19, szle20, szlt20, szle21, szlt21, szle22, szlt22, szle23, szlt23, szle24, szlt24, szle25, szlt25, szle26, szlt26, szle27, szlt27, szle28, szlt28, szle29, szlt29, szle30, szlt30, Out.wp_nx, Out.wp_rt, Out.wp_bk, Out.wp_ct, eqS_int, isS_bl, R.bind_ok, R.out_ok, Sl.pd_v, Sl.pd_l, Sl.pd_k, List.set_cons_zero, List.set_cons_succ, List.getElem?_cons_zero, List.getElem?_cons_succ, List.getElem?_nil, Option.getD_some, Option.getD_none, if_true, Bool.false_eq_true, if_false, bt_nm, bt_tup, bt_lst, bts_nil, bts_cons, wipeE, start0, List.length_cons, List.length_nil, List.replicate, List.cons_append, List.nil_append, List.map_cons, List.map_nil, Nat.reduceAdd, Nat.reduceSub, Nat.zero_add, Bool.not_true, Bool.not_false, decide_true, decide_false, cg_nil, cg_cons, bls_nil, bls_cons, tst_at, cst_at, ch2_at, w_seq, w_sel, rest_nil, Out.wp_out, isB_ok, isI_ok, PD.flat, ne_eq, not_false_eq_true, Int.reduceEq, Int.reduceToNat, Int.reducePow, Int.reduceLT, Int.reduceLE, Int.reduceMul, Int.reduceAdd, Int.reduceSub, pow9, pow16, pow18, pow57, pow60, a]
    exact tail_all _ _ hb.ok (fun x hx => by have := hb.bm x hx; omega) (fun x hx => by have := hb.br x hx; omega) hk hks (fun x hx => by have := hb.br x hx; omega) _ _ _ _ _ _ _ _ fun p5 p6 p7 p8 => hN _ _ _ _ _ _ _ _
theorem law_true : ∀ ns : List Int, ns.length ≤ 63 → (∀ z ∈ ns, Builtin.Int.intBits z ≤ 1048576) → (d_law [.lst (ns.map PD.int)]).All fun s => s = .v (.bl true) := by
  intro ns hl _
  rw [q_law]
  refine den_all rfl ?_
  obtain ⟨n, hn0, hn1, en⟩ : ∃ n : Int, 0 ≤ n ∧ n ≤ 10 ∧ (if (if (ns.length : Int) < 10 then (ns.length : Int) else 10) > 3 then (if (ns.length : Int) < 10 then (ns.length : Int) else 10) else 3) = n := ⟨_, by split <;> split <;> omega, by split <;> split <;> omega, rfl⟩
  simp only [asP_v, asP_l, asP_k, asB_ok, asI_ok, nox_ok, b_add, b_adds, b_addt, b_addl, b_sub, b_mul, b_fdiv, b_mod, b_pow, b_eq, b_ne, b_lt, b_le, b_gt, b_ge, b_is, b_isn, b_inn, b_nin, b_idxl, b_idxt, b_max, b_min, u_neg, u_lenl, u_lent, u_abs, u_int, u_intb, u_tupl, u_tupt, u_lstl, u_lstt, u_str, u_strs, u_all, u_any, u_sum, seq_l, seq_t, seq_s, sl_l, sl_t, sl_s, is_NoneType_int, is_NoneType_bool, is_NoneType_tuple, is_NoneType_list, is_NoneType_str, is_bool_int, is_bool_bool, is_bool_tuple, is_bool_list, is_bool_str, is_int_int, is_int_bool, is_int_tuple, is_int_list, is_int_str, is_str_int, is_str_bool, is_str_tuple, is_str_list, is_str_str, is_tuple_int, is_tuple_bool, is_tuple_tuple, is_tuple_list, is_tuple_str, is_list_int, is_list_bool, is_list_tuple, is_list_list, is_list_str, is_dict_int, is_dict_bool, is_dict_tuple, is_dict_list, is_dict_str, R.all_ok, selE_t, selE_f, evB_at, evP_at, r_pass, r_set, r_own, r_frz, r_unp, r_par, r_app, r_popd, r_popa, r_swp, r_expr, r_ret, r_retm, r_retn, r_ifs, r_whl, r_fr, r_brk, r_cnt, r_raise, r_nil, e_var, e_lit, e_glo, e_u, e_b, e_isi, e_slc, e_rep, e_and, e_or, e_not, e_ite, e_chn, e_chn3, ch3_at, e_qcall, nox_ok, e_mth, e_mkx, mk_index, mk_join, mk_split, m_join, e_lrng, b_divm, e_tup, e_lst, e_call, e_comp, e_bor, e_d0, e_d1, e_pget, r_pput, u_max, u_min, e_oget, e_kin, e_kget, e_kgetd, e_klen, e_sset, e_sortk, r_kput, r_ins, r_ext, r_put, r_pop, e_rev, R.all_ask, es_nil, es_cons, eo_no, eo_yes, ei_seq, ei_rng, ei_zip, ei_enm, szle0, szlt0, szle1, szlt1, szle2, szlt2, szle3, szlt3, szle4, szlt4, szle5, szlt5, szle6, szlt6, szle7, szlt7, szle8, szlt8, szle9, szlt9, szle10, szlt10, szle11, szlt11, szle12, szlt12, szle13, szlt13, szle14, szlt14, szle15, szlt15, szle16, szlt16, szle17, szlt17, szle18, szlt18, szle19, szlt19, szle20, szlt20, szle21, szlt21, szle22, szlt22, szle23, szlt23, szle24, szlt24, szle25, szlt25, szle26, szlt26, szle27, szlt27, szle28, szlt28, szle29, szlt29, szle30, szlt30, Out.wp_nx, Out.wp_rt, Out.wp_bk, Out.wp_ct, eqS_int, isS_bl, R.bind_ok, R.out_ok, Sl.pd_v, Sl.pd_l, Sl.pd_k, List.set_cons_zero, List.set_cons_succ, List.getElem?_cons_zero, List.getElem?_cons_succ, List.getElem?_nil, Option.getD_some, Option.getD_none, if_true, Bool.false_eq_true, if_false, bt_nm, bt_tup, bt_lst, bts_nil, bts_cons, wipeE, start0, List.length_cons, List.length_nil, List.replicate, List.cons_append, List.nil_append, List.map_cons, List.map_nil, Nat.reduceAdd, Nat.reduceSub, Nat.zero_add, Bool.not_true, Bool.not_false, decide_true, decide_false, cg_nil, cg_cons, bls_nil, bls_cons, tst_at, cst_at, ch2_at, w_seq, w_sel, rest_nil, Out.wp_out, isB_ok, isI_ok, PD.flat, ne_eq, not_false_eq_true, Int.reduceEq, Int.reduceToNat, Int.reducePow, Int.reduceLT, Int.reduceLE, Int.reduceMul, Int.reduceAdd, Int.reduceSub, pow9, pow16, pow18, pow57, pow60, b_law, List.length_map, en, rng_up (smallI_of hn0 (show n < 2 ^ 62 by omega))]
  refine runF_wp (fun ys ρ => (∀ y ∈ ys, ∃ j : Int, y = .int j ∧ 0 ≤ j ∧ j ≤ 100) ∧ ∃ o1 o2 o3 o4 o5 o6 o7 o8 : Option Sl, ρ = [some (.v (.lst (ns.map PD.int))), o1, o2, o3, o4, o5, o6, o7, o8]) ?_ ?_ ⟨fun y hy => ?_, none, none, none, none, none, none, none, none, rfl⟩
  · rintro x xs ρ ⟨hy, o1, o2, o3, o4, o5, o6, o7, o8, rfl⟩
    obtain ⟨j, rfl, j0, j1⟩ := hy x (List.mem_cons_self ..)
    simp only [asP_v, asP_l, asP_k, asB_ok, asI_ok, nox_ok, b_add, b_adds, b_addt, b_addl, b_sub, b_mul, b_fdiv, b_mod, b_pow, b_eq, b_ne, b_lt, b_le, b_gt, b_ge, b_is, b_isn, b_inn, b_nin, b_idxl, b_idxt, b_max, b_min, u_neg, u_lenl, u_lent, u_abs, u_int, u_intb, u_tupl, u_tupt, u_lstl, u_lstt, u_str, u_strs, u_all, u_any, u_sum, seq_l, seq_t, seq_s, sl_l, sl_t, sl_s, is_NoneType_int, is_NoneType_bool, is_NoneType_tuple, is_NoneType_list, is_NoneType_str, is_bool_int, is_bool_bool, is_bool_tuple, is_bool_list, is_bool_str, is_int_int, is_int_bool, is_int_tuple, is_int_list, is_int_str, is_str_int, is_str_bool, is_str_tuple, is_str_list, is_str_str, is_tuple_int, is_tuple_bool, is_tuple_tuple, is_tuple_list, is_tuple_str, is_list_int, is_list_bool, is_list_tuple, is_list_list, is_list_str, is_dict_int, is_dict_bool, is_dict_tuple, is_dict_list, is_dict_str, R.all_ok, selE_t, selE_f, evB_at, evP_at, r_pass, r_set, r_own, r_frz, r_unp, r_par, r_app, r_popd, r_popa, r_swp, r_expr, r_ret, r_retm, r_retn, r_ifs, r_whl, r_fr, r_brk, r_cnt, r_raise, r_nil, e_var, e_lit, e_glo, e_u, e_b, e_isi, e_slc, e_rep, e_and, e_or, e_not, e_ite, e_chn, e_chn3, ch3_at, e_qcall, nox_ok, e_mth, e_mkx, mk_index, mk_join, mk_split, m_join, e_lrng, b_divm, e_tup, e_lst, e_call, e_comp, e_bor, e_d0, e_d1, e_pget, r_pput, u_max, u_min, e_oget, e_kin, e_kget, e_kgetd, e_klen, e_sset, e_sortk, r_kput, r_ins, r_ext, r_put, r_pop, e_rev, R.all_ask, es_nil, es_cons, eo_no, eo_yes, ei_seq, ei_rng, ei_zip, ei_enm, szle0, szlt0, szle1, szlt1, szle2, szlt2, szle3, szlt3, szle4, szlt4, szle5, szlt5, szle6, szlt6, szle7, szlt7, szle8, szlt8, szle9, szlt9, szle10, szlt10, szle11, szlt11, szle12, szlt12, szle13, szlt13, szle14, szlt14, szle15, szlt15, szle16, szlt16, szle17, szlt17, szle18, szlt18, szle19, szlt19, szle20, szlt20, szle21, szlt21, szle22, szlt22, szle23, szlt23, szle24, szlt24, szle25, szlt25, szle26, szlt26, szle27, szlt27, szle28, szlt28, szle29, szlt29, szle30, szlt30, Out.wp_nx, Out.wp_rt, Out.wp_bk, Out.wp_ct, eqS_int, isS_bl, R.bind_ok, R.out_ok, Sl.pd_v, Sl.pd_l, Sl.pd_k, List.set_cons_zero, List.set_cons_succ, List.getElem?_cons_zero, List.getElem?_cons_succ, List.getElem?_nil, Option.getD_some, Option.getD_none, if_true, Bool.false_eq_true, if_false, bt_nm, bt_tup, bt_lst, bts_nil, bts_cons, wipeE, start0, List.length_cons, List.length_nil, List.replicate, List.cons_append, List.nil_append, List.map_cons, List.map_nil, Nat.reduceAdd, Nat.reduceSub, Nat.zero_add, Bool.not_true, Bool.not_false, decide_true, decide_false, cg_nil, cg_cons, bls_nil, bls_cons, tst_at, cst_at, ch2_at, w_seq, w_sel, rest_nil, Out.wp_out, isB_ok, isI_ok, PD.flat, ne_eq, not_false_eq_true, Int.reduceEq, Int.reduceToNat, Int.reducePow, Int.reduceLT, Int.reduceLE, Int.reduceMul, Int.reduceAdd, Int.reduceSub, pow9, pow16, pow18, pow57, pow60]
    refine cell_all ns hl j j0 j1 _ _ _ _ _ _ _ _ _ _ _ fun p1 p2 p3 p4 p5 p6 p7 p8 => ?_
    exact ⟨fun y hm => hy y (List.mem_cons_of_mem _ hm), _, _, _, _, _, _, _, _, rfl⟩
  · rintro ρ ⟨_, o1, o2, o3, o4, o5, o6, o7, o8, rfl⟩
    (refine Rest.mk ?_; simp only [asP_v, asP_l, asP_k, asB_ok, asI_ok, nox_ok, b_add, b_adds, b_addt, b_addl, b_sub, b_mul, b_fdiv, b_mod, b_pow, b_eq, b_ne, b_lt, b_le, b_gt, b_ge, b_is, b_isn, b_inn, b_nin, b_idxl, b_idxt, b_max, b_min, u_neg, u_lenl, u_lent, u_abs, u_int, u_intb, u_tupl, u_tupt, u_lstl, u_lstt, u_str, u_strs, u_all, u_any, u_sum, seq_l, seq_t, seq_s, sl_l, sl_t, sl_s, is_NoneType_int, is_NoneType_bool, is_NoneType_tuple, is_NoneType_list, is_NoneType_str, is_bool_int, is_bool_bool, is_bool_tuple, is_bool_list, is_bool_str, is_int_int, is_int_bool, is_int_tuple, is_int_list, is_int_str, is_str_int, is_str_bool, is_str_tuple, is_str_list, is_str_str, is_tuple_int, is_tuple_bool, is_tuple_tuple, is_tuple_list, is_tuple_str, is_list_int, is_list_bool, is_list_tuple, is_list_list, is_list_str, is_dict_int, is_dict_bool, is_dict_tuple, is_dict_list, is_dict_str, R.all_ok, selE_t, selE_f, evB_at, evP_at, r_pass, r_set, r_own, r_frz, r_unp, r_par, r_app, r_popd, r_popa, r_swp, r_expr, r_ret, r_retm, r_retn, r_ifs, r_whl, r_fr, r_brk, r_cnt, r_raise, r_nil, e_var, e_lit, e_glo, e_u, e_b, e_isi, e_slc, e_rep, e_and, e_or, e_not, e_ite, e_chn, e_chn3, ch3_at, e_qcall, nox_ok, e_mth, e_mkx, mk_index, mk_join, mk_split, m_join, e_lrng, b_divm, e_tup, e_lst, e_call, e_comp, e_bor, e_d0, e_d1, e_pget, r_pput, u_max, u_min, e_oget, e_kin, e_kget, e_kgetd, e_klen, e_sset, e_sortk, r_kput, r_ins, r_ext, r_put, r_pop, e_rev, R.all_ask, es_nil, es_cons, eo_no, eo_yes, ei_seq, ei_rng, ei_zip, ei_enm, szle0, szlt0, szle1, szlt1, szle2, szlt2, szle3, szlt3, szle4, szlt4, szle5, szlt5, szle6, szlt6, szle7, szlt7, szle8, szlt8, szle9, szlt9, szle10, szlt10, szle11, szlt11, szle12, szlt12, szle13, szlt13, szle14, szlt14, szle15, szlt15, szle16, szlt16, szle17, szlt17, szle18, szlt18, szle19, szlt19, szle20, szlt20, szle21, szlt21, szle22, szlt22, szle23, szlt23, szle24, szlt24, szle25, szlt25, szle26, szlt26, szle27, szlt27, szle28, szlt28, szle29, szlt29, szle30, szlt30, Out.wp_nx, Out.wp_rt, Out.wp_bk, Out.wp_ct, eqS_int, isS_bl, R.bind_ok, R.out_ok, Sl.pd_v, Sl.pd_l, Sl.pd_k, List.set_cons_zero, List.set_cons_succ, List.getElem?_cons_zero, List.getElem?_cons_succ, List.getElem?_nil, Option.getD_some, Option.getD_none, if_true, Bool.false_eq_true, if_false, bt_nm, bt_tup, bt_lst, bts_nil, bts_cons, wipeE, start0, List.length_cons, List.length_nil, List.replicate, List.cons_append, List.nil_append, List.map_cons, List.map_nil, Nat.reduceAdd, Nat.reduceSub, Nat.zero_add, Bool.not_true, Bool.not_false, decide_true, decide_false, cg_nil, cg_cons, bls_nil, bls_cons, tst_at, cst_at, ch2_at, w_seq, w_sel, rest_nil, Out.wp_out, isB_ok, isI_ok, PD.flat, ne_eq, not_false_eq_true, Int.reduceEq, Int.reduceToNat, Int.reducePow, Int.reduceLT, Int.reduceLE, Int.reduceMul, Int.reduceAdd, Int.reduceSub, pow9, pow16, pow18, pow57, pow60])
  · obtain ⟨j, e, j0, j1⟩ := mem_rng hy
    exact ⟨j, e, j0, by omega⟩
end K63

set_option maxHeartbeats 0
set_option autoImplicit true
/-! law_k63_held_judged: the head, the walk (printed by gen.py of mine) -/
namespace K63
open PySem PySem.Spec L2 FS
def top (i : Nat) : Stmt := PySem.Challenge.pw_farshells_k63_held_judged.main.body.getD i (.Pass ⟨0, 0, 0, 0⟩)
abbrev s_law_pot : Stmt := top 7
theorem sc_law_pot : FnScope c_law_pot.N ["script", "k"] (defScope s_law_pot) := ⟨by kernel_rfl, by kernel_rfl, by kernel_rfl, by decide +kernel, by kernel_rfl, by decide +kernel, by decide +kernel⟩
theorem ch_law_pot : chSs c_law_pot (defScope s_law_pot) b_law_pot (defBody s_law_pot) = true := by kernel_rfl
abbrev s_law_take : Stmt := top 8
theorem sc_law_take : FnScope c_law_take.N ["pot", "many"] (defScope s_law_take) := ⟨by kernel_rfl, by kernel_rfl, by kernel_rfl, by decide +kernel, by kernel_rfl, by decide +kernel, by decide +kernel⟩
theorem ch_law_take : chSs c_law_take (defScope s_law_take) b_law_take (defBody s_law_take) = true := by kernel_rfl
abbrev s_law_row : Stmt := top 9
theorem sc_law_row : FnScope c_law_row.N ["pot", "most"] (defScope s_law_row) := ⟨by kernel_rfl, by kernel_rfl, by kernel_rfl, by decide +kernel, by kernel_rfl, by decide +kernel, by decide +kernel⟩
theorem ch_law_row : chSs c_law_row (defScope s_law_row) b_law_row (defBody s_law_row) = true := by kernel_rfl
abbrev s_law_bent : Stmt := top 11
theorem sc_law_bent : FnScope c_law_bent.N ["pot", "row"] (defScope s_law_bent) := ⟨by kernel_rfl, by kernel_rfl, by kernel_rfl, by decide +kernel, by kernel_rfl, by decide +kernel, by decide +kernel⟩
theorem ch_law_bent : chSs c_law_bent (defScope s_law_bent) b_law_bent (defBody s_law_bent) = true := by kernel_rfl
abbrev s_enough_shells : Stmt := top 3
theorem sc_enough_shells : FnScope c_enough_shells.N ["one", "other"] (defScope s_enough_shells) := ⟨by kernel_rfl, by kernel_rfl, by kernel_rfl, by decide +kernel, by kernel_rfl, by decide +kernel, by decide +kernel⟩
theorem ch_enough_shells : chSs c_enough_shells (defScope s_enough_shells) b_enough_shells (defBody s_enough_shells) = true := by kernel_rfl
abbrev s_row_shell : Stmt := top 1
theorem sc_row_shell : FnScope c_row_shell.N ["row", "n"] (defScope s_row_shell) := ⟨by kernel_rfl, by kernel_rfl, by kernel_rfl, by decide +kernel, by kernel_rfl, by decide +kernel, by decide +kernel⟩
theorem ch_row_shell : chSs c_row_shell (defScope s_row_shell) b_row_shell (defBody s_row_shell) = true := by kernel_rfl
abbrev s_rows_held : Stmt := top 4
theorem sc_rows_held : FnScope c_rows_held.N ["one", "other"] (defScope s_rows_held) := ⟨by kernel_rfl, by kernel_rfl, by kernel_rfl, by decide +kernel, by kernel_rfl, by decide +kernel, by decide +kernel⟩
theorem ch_rows_held : chSs c_rows_held (defScope s_rows_held) b_rows_held (defBody s_rows_held) = true := by kernel_rfl
abbrev s_held_right : Stmt := top 5
theorem sc_held_right : FnScope c_held_right.N ["one", "other", "told"] (defScope s_held_right) := ⟨by kernel_rfl, by kernel_rfl, by kernel_rfl, by decide +kernel, by kernel_rfl, by decide +kernel, by decide +kernel⟩
theorem ch_held_right : chSs c_held_right (defScope s_held_right) b_held_right (defBody s_held_right) = true := by kernel_rfl
abbrev s_law_shell : Stmt := top 10
theorem sc_law_shell : FnScope c_law_shell.N ["row", "n"] (defScope s_law_shell) := ⟨by kernel_rfl, by kernel_rfl, by kernel_rfl, by decide +kernel, by kernel_rfl, by decide +kernel, by decide +kernel⟩
theorem ch_law_shell : chSs c_law_shell (defScope s_law_shell) b_law_shell (defBody s_law_shell) = true := by kernel_rfl
abbrev s_law_others : Stmt := top 12
theorem sc_law_others : FnScope c_law_others.N ["pot", "one", "other", "told"] (defScope s_law_others) := ⟨by kernel_rfl, by kernel_rfl, by kernel_rfl, by decide +kernel, by kernel_rfl, by decide +kernel, by decide +kernel⟩
theorem ch_law_others : chSs c_law_others (defScope s_law_others) b_law_others (defBody s_law_others) = true := by kernel_rfl
abbrev s_law : Stmt := top 13
theorem sc_law : FnScope c_law.N ["script"] (defScope s_law) := ⟨by kernel_rfl, by kernel_rfl, by kernel_rfl, by decide +kernel, by kernel_rfl, by decide +kernel, by decide +kernel⟩
theorem ch_law : chSs c_law (defScope s_law) b_law (defBody s_law) = true := by kernel_rfl
def D_law_pot : He.DefD := ⟨("_law_pot", none), "_law_pot", "_law_pot", defArgs s_law_pot, defBody s_law_pot, defScope s_law_pot, [], []⟩
def D_law_take : He.DefD := ⟨("_law_take", none), "_law_take", "_law_take", defArgs s_law_take, defBody s_law_take, defScope s_law_take, [], []⟩
def D_law_row : He.DefD := ⟨("_law_row", none), "_law_row", "_law_row", defArgs s_law_row, defBody s_law_row, defScope s_law_row, [], []⟩
def D_law_bent : He.DefD := ⟨("_law_bent", none), "_law_bent", "_law_bent", defArgs s_law_bent, defBody s_law_bent, defScope s_law_bent, [], []⟩
def D_enough_shells : He.DefD := ⟨("enough_shells", none), "enough_shells", "enough_shells", defArgs s_enough_shells, defBody s_enough_shells, defScope s_enough_shells, [], []⟩
def D_row_shell : He.DefD := ⟨("row_shell", none), "row_shell", "row_shell", defArgs s_row_shell, defBody s_row_shell, defScope s_row_shell, [], []⟩
def D_rows_held : He.DefD := ⟨("rows_held", none), "rows_held", "rows_held", defArgs s_rows_held, defBody s_rows_held, defScope s_rows_held, [], []⟩
def D_held_right : He.DefD := ⟨("held_right", none), "held_right", "held_right", defArgs s_held_right, defBody s_held_right, defScope s_held_right, [], []⟩
def D_law_shell : He.DefD := ⟨("_law_shell", none), "_law_shell", "_law_shell", defArgs s_law_shell, defBody s_law_shell, defScope s_law_shell, [], []⟩
def D_law_others : He.DefD := ⟨("_law_others", none), "_law_others", "_law_others", defArgs s_law_others, defBody s_law_others, defScope s_law_others, [], []⟩
def D_law : He.DefD := ⟨("law", none), "law", "law", defArgs s_law, defBody s_law, defScope s_law, [], []⟩
def fn : List He.DefD := [D_law_pot, D_law_take, D_law_row, D_law_bent, D_enough_shells, D_row_shell, D_rows_held, D_held_right, D_law_shell, D_law_others, D_law]
def fa : List He.Fa := [.glo "_law_pot", .glo "_law_take", .glo "_law_row", .glo "_law_bent", .glo "enough_shells", .glo "row_shell", .glo "rows_held", .glo "held_right", .glo "_law_shell", .glo "_law_others", .glo "law", .free "len", .free "max", .free "range", .free "tuple", .free "list", .free "min", .free "sum", .free "str", .free "isinstance", .free "bool"]
abbrev Rw : PySem.W.OpenRow := PySem.W.OpenLaw.row PySem.Challenge.rw_farshells_k63_held_judged
def gl : List (Str × PD) := []
abbrev hk : PySem.W.Hook := hookC 4 fa fn cll subm gl
def ob (s : PySem.W.SharedT) : AlC := obsC 4 fa fn cll subm gl (HandSHeadRun.getT s)
theorem ob_eq (s : PySem.W.SharedT) : ob s = hk.obs s.abs := obsC_eq (HandSHeadRun.getT_eq s)
theorem run (w : World) : HandSHeadRun.RunEq Rw (PySem.W.view Rw.prog [13]) hk ob 4000 ["row_shell", "enough_shells", "rows_held", "held_right", "_law_pot", "_law_take", "_law_row", "_law_shell", "_law_bent", "_law_others"] w := by
  intro os
  kernel_rfl
section
variable {P : Program} {w : World} {mg : Str → Option Value} {base h : Heap} {k : Kx} (CA : ClsAll k mg cll subm) (GA : GloAll k mg gln gld) (hTK : k.tk = false) (hPP : k.P = K63.potP)
include CA GA hTK hPP in
theorem md_law_pot  (B_len : mg "len" = none) (B_max : mg "max" = none) : Md P w mg base c_law_pot g_law_pot k where
  bn := fun x hx => by
    have hx : x ∈ (["len", "max"] : List Str) := hx
    simp only [List.mem_cons, List.not_mem_nil, or_false] at hx
    rcases hx with rfl | rfl
    · exact B_len
    · exact B_max
  fn := fun i x e => by cases (show ([] : List Str)[i]? = some x from e)
  fq := fun i x _ h => by cases (show x ∈ ([] : List Str) from h)
  glo := GA
  prr := fun ns h j m e => by cases (show (none : Option (Option Int)) = some m from e)
  prs := fun ns h j n m e => by cases (show (none : Option (Option Int)) = some m from e)
  ncl := rfl
  htk := hTK
  sub := CA.sub
  exm := CA.exm
  cls := CA.cls
include CA GA hTK hPP in
theorem ft_law_pot  (B_len : mg "len" = none) (B_max : mg "max" = none) {fd : FuncData} {f : Addr} (F : FunD k.K "_law_pot" "_law_pot" (defArgs s_law_pot) (defBody s_law_pot) (defScope s_law_pot) [] [] f fd) (hg : mg "_law_pot" = some (.ref f)) : Fits P w mg base k 2 "_law_pot" d_law_pot := by
  rw [q_law_pot]
  exact def_fits (md_law_pot CA GA hTK hPP B_len B_max) F sc_law_pot (by decide) ch_law_pot hg (F.bindsN fun _ _ _ _ _ _ us hl => match us, hl with | [_, _], _ => rfl)
include CA GA hTK hPP in
theorem md_law_take   : Md P w mg base c_law_take g_law_take k where
  bn := fun x hx => by cases hx
  fn := fun i x e => by cases (show ([] : List Str)[i]? = some x from e)
  fq := fun i x _ h => by cases (show x ∈ ([] : List Str) from h)
  glo := GA
  prr := fun ns h j m e => pot_rd ns (hPP ▸ h) j m e
  prs := fun ns h j n m e r => by
    rw [hPP] at h ⊢
    exact pot_st ns h j n m e r
  ncl := rfl
  htk := hTK
  sub := CA.sub
  exm := CA.exm
  cls := CA.cls
include CA GA hTK hPP in
theorem ft_law_take   {fd : FuncData} {f : Addr} (F : FunD k.K "_law_take" "_law_take" (defArgs s_law_take) (defBody s_law_take) (defScope s_law_take) [] [] f fd) (hg : mg "_law_take" = some (.ref f)) : Fits P w mg base k 2 "_law_take" d_law_take := by
  rw [q_law_take]
  exact def_fits (md_law_take CA GA hTK hPP ) F sc_law_take (by decide) ch_law_take hg (F.bindsN fun _ _ _ _ _ _ us hl => match us, hl with | [_, _], _ => rfl)
include CA GA hTK hPP in
theorem md_law_row (F_law_take : Fits P w mg base k 2 "_law_take" d_law_take) (B_range : mg "range" = none) (B_len : mg "len" = none) (B_tuple : mg "tuple" = none) : Md P w mg base c_law_row g_law_row k where
  bn := fun x hx => by
    have hx : x ∈ (["range", "len", "tuple"] : List Str) := hx
    simp only [List.mem_cons, List.not_mem_nil, or_false] at hx
    rcases hx with rfl | rfl | rfl
    · exact B_range
    · exact B_len
    · exact B_tuple
  fn := fun i x e => FitsAll.at (xs := ["_law_take"]) (ms := [d_law_take]) ⟨F_law_take.up (by decide), trivial⟩ e
  fq := fun i x _ h => by cases (show x ∈ ([] : List Str) from h)
  glo := GA
  prr := fun ns h j m e => by cases (show (none : Option (Option Int)) = some m from e)
  prs := fun ns h j n m e => by cases (show (none : Option (Option Int)) = some m from e)
  ncl := rfl
  htk := hTK
  sub := CA.sub
  exm := CA.exm
  cls := CA.cls
include CA GA hTK hPP in
theorem ft_law_row (F_law_take : Fits P w mg base k 2 "_law_take" d_law_take) (B_range : mg "range" = none) (B_len : mg "len" = none) (B_tuple : mg "tuple" = none) {fd : FuncData} {f : Addr} (F : FunD k.K "_law_row" "_law_row" (defArgs s_law_row) (defBody s_law_row) (defScope s_law_row) [] [] f fd) (hg : mg "_law_row" = some (.ref f)) : Fits P w mg base k 3 "_law_row" d_law_row := by
  rw [q_law_row]
  exact def_fits (md_law_row CA GA hTK hPP F_law_take B_range B_len B_tuple) F sc_law_row (by decide) ch_law_row hg (F.bindsN fun _ _ _ _ _ _ us hl => match us, hl with | [_, _], _ => rfl)
include CA GA hTK hPP in
theorem md_law_bent (F_law_take : Fits P w mg base k 2 "_law_take" d_law_take) (B_len : mg "len" = none) (B_list : mg "list" = none) (B_tuple : mg "tuple" = none) : Md P w mg base c_law_bent g_law_bent k where
  bn := fun x hx => by
    have hx : x ∈ (["len", "list", "tuple"] : List Str) := hx
    simp only [List.mem_cons, List.not_mem_nil, or_false] at hx
    rcases hx with rfl | rfl | rfl
    · exact B_len
    · exact B_list
    · exact B_tuple
  fn := fun i x e => FitsAll.at (xs := ["_law_take"]) (ms := [d_law_take]) ⟨F_law_take.up (by decide), trivial⟩ e
  fq := fun i x _ h => by cases (show x ∈ ([] : List Str) from h)
  glo := GA
  prr := fun ns h j m e => by cases (show (none : Option (Option Int)) = some m from e)
  prs := fun ns h j n m e => by cases (show (none : Option (Option Int)) = some m from e)
  ncl := rfl
  htk := hTK
  sub := CA.sub
  exm := CA.exm
  cls := CA.cls
include CA GA hTK hPP in
theorem ft_law_bent (F_law_take : Fits P w mg base k 2 "_law_take" d_law_take) (B_len : mg "len" = none) (B_list : mg "list" = none) (B_tuple : mg "tuple" = none) {fd : FuncData} {f : Addr} (F : FunD k.K "_law_bent" "_law_bent" (defArgs s_law_bent) (defBody s_law_bent) (defScope s_law_bent) [] [] f fd) (hg : mg "_law_bent" = some (.ref f)) : Fits P w mg base k 3 "_law_bent" d_law_bent := by
  rw [q_law_bent]
  exact def_fits (md_law_bent CA GA hTK hPP F_law_take B_len B_list B_tuple) F sc_law_bent (by decide) ch_law_bent hg (F.bindsN fun _ _ _ _ _ _ us hl => match us, hl with | [_, _], _ => rfl)
include CA GA hTK hPP in
theorem md_enough_shells  (B_len : mg "len" = none) (B_max : mg "max" = none) (B_min : mg "min" = none) (B_sum : mg "sum" = none) : Md P w mg base c_enough_shells g_enough_shells k where
  bn := fun x hx => by
    have hx : x ∈ (["len", "max", "min", "sum"] : List Str) := hx
    simp only [List.mem_cons, List.not_mem_nil, or_false] at hx
    rcases hx with rfl | rfl | rfl | rfl
    · exact B_len
    · exact B_max
    · exact B_min
    · exact B_sum
  fn := fun i x e => by cases (show ([] : List Str)[i]? = some x from e)
  fq := fun i x _ h => by cases (show x ∈ ([] : List Str) from h)
  glo := GA
  prr := fun ns h j m e => by cases (show (none : Option (Option Int)) = some m from e)
  prs := fun ns h j n m e => by cases (show (none : Option (Option Int)) = some m from e)
  ncl := rfl
  htk := hTK
  sub := CA.sub
  exm := CA.exm
  cls := CA.cls
include CA GA hTK hPP in
theorem ft_enough_shells  (B_len : mg "len" = none) (B_max : mg "max" = none) (B_min : mg "min" = none) (B_sum : mg "sum" = none) {fd : FuncData} {f : Addr} (F : FunD k.K "enough_shells" "enough_shells" (defArgs s_enough_shells) (defBody s_enough_shells) (defScope s_enough_shells) [] [] f fd) (hg : mg "enough_shells" = some (.ref f)) : Fits P w mg base k 2 "enough_shells" d_enough_shells := by
  rw [q_enough_shells]
  exact def_fits (md_enough_shells CA GA hTK hPP B_len B_max B_min B_sum) F sc_enough_shells (by decide) ch_enough_shells hg (F.bindsN fun _ _ _ _ _ _ us hl => match us, hl with | [_, _], _ => rfl)
include CA GA hTK hPP in
theorem md_row_shell  (B_len : mg "len" = none) : Md P w mg base c_row_shell g_row_shell k where
  bn := fun x hx => by
    have hx : x ∈ (["len"] : List Str) := hx
    simp only [List.mem_cons, List.not_mem_nil, or_false] at hx
    rcases hx with rfl
    · exact B_len
  fn := fun i x e => by cases (show ([] : List Str)[i]? = some x from e)
  fq := fun i x _ h => by cases (show x ∈ ([] : List Str) from h)
  glo := GA
  prr := fun ns h j m e => by cases (show (none : Option (Option Int)) = some m from e)
  prs := fun ns h j n m e => by cases (show (none : Option (Option Int)) = some m from e)
  ncl := rfl
  htk := hTK
  sub := CA.sub
  exm := CA.exm
  cls := CA.cls
include CA GA hTK hPP in
theorem ft_row_shell  (B_len : mg "len" = none) {fd : FuncData} {f : Addr} (F : FunD k.K "row_shell" "row_shell" (defArgs s_row_shell) (defBody s_row_shell) (defScope s_row_shell) [] [] f fd) (hg : mg "row_shell" = some (.ref f)) : Fits P w mg base k 2 "row_shell" d_row_shell := by
  rw [q_row_shell]
  exact def_fits (md_row_shell CA GA hTK hPP B_len) F sc_row_shell (by decide) ch_row_shell hg (F.bindsN fun _ _ _ _ _ _ us hl => match us, hl with | [_, _], _ => rfl)
include CA GA hTK hPP in
theorem md_rows_held (F_enough_shells : Fits P w mg base k 2 "enough_shells" d_enough_shells) (F_row_shell : Fits P w mg base k 2 "row_shell" d_row_shell) (B_range : mg "range" = none) : Md P w mg base c_rows_held g_rows_held k where
  bn := fun x hx => by
    have hx : x ∈ (["range"] : List Str) := hx
    simp only [List.mem_cons, List.not_mem_nil, or_false] at hx
    rcases hx with rfl
    · exact B_range
  fn := fun i x e => FitsAll.at (xs := ["enough_shells", "row_shell"]) (ms := [d_enough_shells, d_row_shell]) ⟨F_enough_shells.up (by decide), F_row_shell.up (by decide), trivial⟩ e
  fq := fun i x _ h => by cases (show x ∈ ([] : List Str) from h)
  glo := GA
  prr := fun ns h j m e => by cases (show (none : Option (Option Int)) = some m from e)
  prs := fun ns h j n m e => by cases (show (none : Option (Option Int)) = some m from e)
  ncl := rfl
  htk := hTK
  sub := CA.sub
  exm := CA.exm
  cls := CA.cls
include CA GA hTK hPP in
theorem ft_rows_held (F_enough_shells : Fits P w mg base k 2 "enough_shells" d_enough_shells) (F_row_shell : Fits P w mg base k 2 "row_shell" d_row_shell) (B_range : mg "range" = none) {fd : FuncData} {f : Addr} (F : FunD k.K "rows_held" "rows_held" (defArgs s_rows_held) (defBody s_rows_held) (defScope s_rows_held) [] [] f fd) (hg : mg "rows_held" = some (.ref f)) : Fits P w mg base k 3 "rows_held" d_rows_held := by
  rw [q_rows_held]
  exact def_fits (md_rows_held CA GA hTK hPP F_enough_shells F_row_shell B_range) F sc_rows_held (by decide) ch_rows_held hg (F.bindsN fun _ _ _ _ _ _ us hl => match us, hl with | [_, _], _ => rfl)
include CA GA hTK hPP in
theorem md_held_right (F_rows_held : Fits P w mg base k 3 "rows_held" d_rows_held)  : Md P w mg base c_held_right g_held_right k where
  bn := fun x hx => by cases hx
  fn := fun i x e => FitsAll.at (xs := ["rows_held"]) (ms := [d_rows_held]) ⟨F_rows_held.up (by decide), trivial⟩ e
  fq := fun i x _ h => by cases (show x ∈ ([] : List Str) from h)
  glo := GA
  prr := fun ns h j m e => by cases (show (none : Option (Option Int)) = some m from e)
  prs := fun ns h j n m e => by cases (show (none : Option (Option Int)) = some m from e)
  ncl := rfl
  htk := hTK
  sub := CA.sub
  exm := CA.exm
  cls := CA.cls
include CA GA hTK hPP in
theorem ft_held_right (F_rows_held : Fits P w mg base k 3 "rows_held" d_rows_held)  {fd : FuncData} {f : Addr} (F : FunD k.K "held_right" "held_right" (defArgs s_held_right) (defBody s_held_right) (defScope s_held_right) [] [] f fd) (hg : mg "held_right" = some (.ref f)) : Fits P w mg base k 4 "held_right" d_held_right := by
  rw [q_held_right]
  exact def_fits (md_held_right CA GA hTK hPP F_rows_held) F sc_held_right (by decide) ch_held_right hg (F.bindsN fun _ _ _ _ _ _ us hl => match us, hl with | [_, _, _], _ => rfl)
include CA GA hTK hPP in
theorem md_law_shell  (B_len : mg "len" = none) : Md P w mg base c_law_shell g_law_shell k where
  bn := fun x hx => by
    have hx : x ∈ (["len"] : List Str) := hx
    simp only [List.mem_cons, List.not_mem_nil, or_false] at hx
    rcases hx with rfl
    · exact B_len
  fn := fun i x e => by cases (show ([] : List Str)[i]? = some x from e)
  fq := fun i x _ h => by cases (show x ∈ ([] : List Str) from h)
  glo := GA
  prr := fun ns h j m e => by cases (show (none : Option (Option Int)) = some m from e)
  prs := fun ns h j n m e => by cases (show (none : Option (Option Int)) = some m from e)
  ncl := rfl
  htk := hTK
  sub := CA.sub
  exm := CA.exm
  cls := CA.cls
include CA GA hTK hPP in
theorem ft_law_shell  (B_len : mg "len" = none) {fd : FuncData} {f : Addr} (F : FunD k.K "_law_shell" "_law_shell" (defArgs s_law_shell) (defBody s_law_shell) (defScope s_law_shell) [] [] f fd) (hg : mg "_law_shell" = some (.ref f)) : Fits P w mg base k 2 "_law_shell" d_law_shell := by
  rw [q_law_shell]
  exact def_fits (md_law_shell CA GA hTK hPP B_len) F sc_law_shell (by decide) ch_law_shell hg (F.bindsN fun _ _ _ _ _ _ us hl => match us, hl with | [_, _], _ => rfl)
include CA GA hTK hPP in
theorem md_law_others (F_law_take : Fits P w mg base k 2 "_law_take" d_law_take) (F_law_shell : Fits P w mg base k 2 "_law_shell" d_law_shell) (B_range : mg "range" = none) (B_len : mg "len" = none) : Md P w mg base c_law_others g_law_others k where
  bn := fun x hx => by
    have hx : x ∈ (["range", "len"] : List Str) := hx
    simp only [List.mem_cons, List.not_mem_nil, or_false] at hx
    rcases hx with rfl | rfl
    · exact B_range
    · exact B_len
  fn := fun i x e => FitsAll.at (xs := ["_law_take", "_law_shell"]) (ms := [d_law_take, d_law_shell]) ⟨F_law_take.up (by decide), F_law_shell.up (by decide), trivial⟩ e
  fq := fun i x _ h => by cases (show x ∈ ([] : List Str) from h)
  glo := GA
  prr := fun ns h j m e => by cases (show (none : Option (Option Int)) = some m from e)
  prs := fun ns h j n m e => by cases (show (none : Option (Option Int)) = some m from e)
  ncl := rfl
  htk := hTK
  sub := CA.sub
  exm := CA.exm
  cls := CA.cls
include CA GA hTK hPP in
theorem ft_law_others (F_law_take : Fits P w mg base k 2 "_law_take" d_law_take) (F_law_shell : Fits P w mg base k 2 "_law_shell" d_law_shell) (B_range : mg "range" = none) (B_len : mg "len" = none) {fd : FuncData} {f : Addr} (F : FunD k.K "_law_others" "_law_others" (defArgs s_law_others) (defBody s_law_others) (defScope s_law_others) [] [] f fd) (hg : mg "_law_others" = some (.ref f)) : Fits P w mg base k 3 "_law_others" d_law_others := by
  rw [q_law_others]
  exact def_fits (md_law_others CA GA hTK hPP F_law_take F_law_shell B_range B_len) F sc_law_others (by decide) ch_law_others hg (F.bindsN fun _ _ _ _ _ _ us hl => match us, hl with | [_, _, _, _], _ => rfl)
include CA GA hTK hPP in
theorem md_law (F_law_pot : Fits P w mg base k 2 "_law_pot" p_law_pot) (F_law_row : Fits P w mg base k 3 "_law_row" d_law_row) (F_law_bent : Fits P w mg base k 3 "_law_bent" d_law_bent) (F_law_take : Fits P w mg base k 2 "_law_take" d_law_take) (F_rows_held : Fits P w mg base k 3 "rows_held" d_rows_held) (F_held_right : Fits P w mg base k 4 "held_right" d_held_right) (F_law_others : Fits P w mg base k 3 "_law_others" d_law_others) (B_range : mg "range" = none) (B_max : mg "max" = none) (B_min : mg "min" = none) (B_len : mg "len" = none) (B_str : mg "str" = none) (B_isinstance : mg "isinstance" = none) (B_bool : mg "bool" = none) : Md P w mg base c_law g_law k where
  bn := fun x hx => by
    have hx : x ∈ (["range", "max", "min", "len", "str", "isinstance", "bool"] : List Str) := hx
    simp only [List.mem_cons, List.not_mem_nil, or_false] at hx
    rcases hx with rfl | rfl | rfl | rfl | rfl | rfl | rfl
    · exact B_range
    · exact B_max
    · exact B_min
    · exact B_len
    · exact B_str
    · exact B_isinstance
    · exact B_bool
  fn := fun i x e => FitsAll.at (xs := ["_law_pot", "_law_row", "_law_bent", "_law_take", "rows_held", "held_right", "_law_others"]) (ms := [p_law_pot, d_law_row, d_law_bent, d_law_take, d_rows_held, d_held_right, d_law_others]) ⟨F_law_pot.up (by decide), F_law_row.up (by decide), F_law_bent.up (by decide), F_law_take.up (by decide), F_rows_held.up (by decide), F_held_right.up (by decide), F_law_others.up (by decide), trivial⟩ e
  fq := fun i x _ h => by cases (show x ∈ ([] : List Str) from h)
  glo := GA
  prr := fun ns h j m e => by cases (show (none : Option (Option Int)) = some m from e)
  prs := fun ns h j n m e => by cases (show (none : Option (Option Int)) = some m from e)
  ncl := rfl
  htk := hTK
  sub := CA.sub
  exm := CA.exm
  cls := CA.cls
end
theorem facts {P : Program} {w : World} {k : Kx} {h : Heap} {mg : Str → Option Value} {fl : Addr} (X : k.K.In h) (G : h.Ns mainGlobals mg) (hfa : mg ("law" : Str) = some (.ref fl)) (c : He.SaysD fa fn k.K) (CA : ClsAll k mg cll subm) (GA : GloAll k mg gln gld) (hTK : k.tk = false) (hPP : k.P = K63.potP) :
    ∃ fd : FuncData, (∀ (s : Shared) (v : Value), BindsTo s fd ⟨[v], []⟩ [("script", v)]) ∧ ∀ base : Heap, k.K.In base → base.Ns mainGlobals mg → FnG P w k.K mg base 5 fl fd ["script"] (spOf k 1 d_law) := by
  obtain ⟨fd_law_pot, U_law_pot⟩ := c.def_ 0 (d := D_law_pot) rfl
  obtain ⟨fd_law_take, U_law_take⟩ := c.def_ 1 (d := D_law_take) rfl
  obtain ⟨fd_law_row, U_law_row⟩ := c.def_ 2 (d := D_law_row) rfl
  obtain ⟨fd_law_bent, U_law_bent⟩ := c.def_ 3 (d := D_law_bent) rfl
  obtain ⟨fd_enough_shells, U_enough_shells⟩ := c.def_ 4 (d := D_enough_shells) rfl
  obtain ⟨fd_row_shell, U_row_shell⟩ := c.def_ 5 (d := D_row_shell) rfl
  obtain ⟨fd_rows_held, U_rows_held⟩ := c.def_ 6 (d := D_rows_held) rfl
  obtain ⟨fd_held_right, U_held_right⟩ := c.def_ 7 (d := D_held_right) rfl
  obtain ⟨fd_law_shell, U_law_shell⟩ := c.def_ 8 (d := D_law_shell) rfl
  obtain ⟨fd_law_others, U_law_others⟩ := c.def_ 9 (d := D_law_others) rfl
  obtain ⟨fd_law, U_law⟩ := c.def_ 10 (d := D_law) rfl
  have B_len := He.free_ok X G (c.fact 11 (f := .free "len") rfl)
  have B_max := He.free_ok X G (c.fact 12 (f := .free "max") rfl)
  have B_range := He.free_ok X G (c.fact 13 (f := .free "range") rfl)
  have B_tuple := He.free_ok X G (c.fact 14 (f := .free "tuple") rfl)
  have B_list := He.free_ok X G (c.fact 15 (f := .free "list") rfl)
  have B_min := He.free_ok X G (c.fact 16 (f := .free "min") rfl)
  have B_sum := He.free_ok X G (c.fact 17 (f := .free "sum") rfl)
  have B_str := He.free_ok X G (c.fact 18 (f := .free "str") rfl)
  have B_isinstance := He.free_ok X G (c.fact 19 (f := .free "isinstance") rfl)
  have B_bool := He.free_ok X G (c.fact 20 (f := .free "bool") rfl)
  have e := hfa.symm.trans (He.glo_ok X G (c.fact 10 (f := .glo "law") rfl))
  cases e
  have b := FunD.bindsA (ps := ["script"]) U_law fun _ _ _ _ _ _ us hl => match us, hl with | [_], _ => rfl
  refine ⟨fd_law, fun s v => b s [v] rfl, fun base _ _ => ?_⟩
  have F_law_pot := ft_law_pot (P := P) (w := w) (base := base) (k := k) CA GA hTK hPP B_len B_max U_law_pot (He.glo_ok X G (c.fact 0 (f := .glo "_law_pot") rfl))
  have F_law_pot := pot_fits F_law_pot (m' := p_law_pot) fun ds hd => by
    rw [hPP]
    exact pot_law_pot ds hd
  have F_law_take := ft_law_take (P := P) (w := w) (base := base) (k := k) CA GA hTK hPP  U_law_take (He.glo_ok X G (c.fact 1 (f := .glo "_law_take") rfl))
  have F_law_row := ft_law_row (P := P) (w := w) (base := base) (k := k) CA GA hTK hPP F_law_take B_range B_len B_tuple U_law_row (He.glo_ok X G (c.fact 2 (f := .glo "_law_row") rfl))
  have F_law_bent := ft_law_bent (P := P) (w := w) (base := base) (k := k) CA GA hTK hPP F_law_take B_len B_list B_tuple U_law_bent (He.glo_ok X G (c.fact 3 (f := .glo "_law_bent") rfl))
  have F_enough_shells := ft_enough_shells (P := P) (w := w) (base := base) (k := k) CA GA hTK hPP B_len B_max B_min B_sum U_enough_shells (He.glo_ok X G (c.fact 4 (f := .glo "enough_shells") rfl))
  have F_row_shell := ft_row_shell (P := P) (w := w) (base := base) (k := k) CA GA hTK hPP B_len U_row_shell (He.glo_ok X G (c.fact 5 (f := .glo "row_shell") rfl))
  have F_rows_held := ft_rows_held (P := P) (w := w) (base := base) (k := k) CA GA hTK hPP F_enough_shells F_row_shell B_range U_rows_held (He.glo_ok X G (c.fact 6 (f := .glo "rows_held") rfl))
  have F_held_right := ft_held_right (P := P) (w := w) (base := base) (k := k) CA GA hTK hPP F_rows_held U_held_right (He.glo_ok X G (c.fact 7 (f := .glo "held_right") rfl))
  have F_law_shell := ft_law_shell (P := P) (w := w) (base := base) (k := k) CA GA hTK hPP B_len U_law_shell (He.glo_ok X G (c.fact 8 (f := .glo "_law_shell") rfl))
  have F_law_others := ft_law_others (P := P) (w := w) (base := base) (k := k) CA GA hTK hPP F_law_take F_law_shell B_range B_len U_law_others (He.glo_ok X G (c.fact 9 (f := .glo "_law_others") rfl))
  rw [q_law]
  exact def_okG (md_law CA GA hTK hPP F_law_pot F_law_row F_law_bent F_law_take F_rows_held F_held_right F_law_others B_range B_max B_min B_len B_str B_isinstance B_bool) U_law sc_law (by decide) ch_law
end K63
open PySem PySem.W PySem.Calls PyProof.Rows
theorem PySem.Challenge.cw_farshells_k63_held_judged_holds : PySem.Challenge.rw_farshells_k63_held_judged.Holds := by
  w_on; o_law
  refine HandSHeadRun.head_any (r := OpenLaw.row PySem.Challenge.rw_farshells_k63_held_judged) (q := view (OpenLaw.row PySem.Challenge.rw_farshells_k63_held_judged).prog [13]) (H := K63.hk) (ob := K63.ob) (M := 4000) (loose := ["row_shell", "enough_shells", "rows_held", "held_right", "_law_pot", "_law_take", "_law_row", "_law_shell", "_law_bent", "_law_others"]) (d := HandSHeadRun.topDef (OpenLaw.row PySem.Challenge.rw_farshells_k63_held_judged).prog 13) (kwd := []) K63.ob_eq
    (by kernel_rfl) (fun s => by kernel_rfl) K63.run (by kernel_rfl) (by kernel_rfl) (by kernel_rfl) (by rfl) (by first | assumption | decide +kernel) (by decide +kernel) ⟨rfl, rfl, rfl, rfl, rfl, by decide +kernel⟩ ?hw ?hc
  case hw => w_witness2
  case hc =>
    refine FS.walk_allG (l := PySem.Challenge.rw_farshells_k63_held_judged) (n := 63) (lev := 5) (x := "script") (m := K63.d_law) rfl (by decide) (by kernel_rfl) ⟨rfl, by decide, by decide⟩ ?F K63.law_true
    intro w mg fl h Y G hmg0
    obtain ⟨K, KX, c, cc, cg⟩ := Y
    have hmg : mg ("law" : PySem.Str) = some (.ref fl) := by
      have e : (HandSHeadRun.topDef (OpenLaw.row PySem.Challenge.rw_farshells_k63_held_judged).prog 13).name = ("law" : PySem.Str) := by kernel_rfl
      rw [← e]
      exact hmg0
    obtain ⟨fd, hb, hF⟩ := K63.facts (P := (PySem.Challenge.rw_farshells_k63_held_judged).prog) (w := w) (k := { K := K, cv := FS.cvOf K K63.cll, P := K63.potP, tk := false }) KX G hmg c (FS.ClsAll.of KX G cc) (FS.GloAll.of (gl := K63.gl) KX G cg (by first | exact Or.inl rfl | exact Or.inr rfl) (by decide) (fun i x e => by cases (show ([] : List Str)[i]? = some x from e))) rfl rfl
    exact ⟨{ K := K, cv := FS.cvOf K K63.cll, P := K63.potP, tk := false }, fd, KX, hb, hF⟩
