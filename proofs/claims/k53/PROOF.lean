import PyProof.Rows.All
import Wide.All
import OpenK.AllK
import Wide.FinOn
import HandS.ForMost
import HandS.ForExc
import HandS.ExcInit
import HandS.Defaults
import KE.DataEq
import HandS.TupAny
import HandS.IsInst
import HandS.Style
import HandS.Wide
import HandS.TupLe
import KE.DataCmp
import HandS.Conv
import HandS.SortOrd
import HandS.CallSlots
import HandS.WordsExc
import HandS.SetFor
import HandS.Iter
import HandS.Zip
import HandS.Comp
import HandS.Codes
import HandS.Exc
import HandS.ExcIs
import HandS.ExcField
import HandS.Strs
import PyProof.Rows.SetFrom
import PyProof.Rows.StrInSeq3
import KE.KStateDown
import Lean
import HandS.Base
import HandS.Call
import HandS.Ends
import HandS.More
import HandS.Words
import HandS.Head0
import HandS.Head1
import HandS.Head2
import HandS.HeadEnd
import HandS.HeadHook1
import HandS.HeadHook2
import HandS.HeadHook4
import PyProof.NsCount
import PySem.Challenge.RW_keysinline_k53_parts_exchanged_in_kinds
set_option Elab.async false
set_option linter.all false
set_option maxRecDepth 100000
set_option maxHeartbeats 1000000
set_option autoImplicit false
/-! DsA: plain data D, worlds, what stands for what, weakest wishes. -/
namespace Ds
open PySem PySem.Spec PyProof.Rows L2

/-- plain data: a tuple and a frozen list by value, a shared object by its number -/
inductive D where
  | non | bl (b : Bool) | int (i : Int) | str (x : Str) | tup (xs : List D) | lst (xs : List D) | fz (xs : List D) | ref (n : Nat)
  deriving Inhabited
/-- what a def hands back: a value, or a list that nothing else holds -/
inductive SV where
  | val (d : D) | own (ds : List D)
/-- an exception: its class by its name, its fields -/
structure Ex where
  cls : Str
  fs : List (Str × D)
/-- what a slot holds: a value, a list that nothing else holds, the exception that an except suite looks at -/
inductive Sl where
  | val (d : D) | own (ds : List D) | exn (x : Ex)
abbrev En := List (Option Sl)
inductive MO where
  | lst (ds : List D)
abbrev Sto := List (Option MO)
inductive Out (α : Type) where
  | ok (a : α) (st : Sto)
  | err (x : Ex) (ρ : En) (st : Sto)
  | bad
def Out.bind {α β : Type} : Out α → (α → Sto → Out β) → Out β
  | .ok a st, k => k a st
  | .err x ρ st, _ => .err x ρ st
  | .bad, _ => .bad
@[simp] theorem Out.bind_ok {α β : Type} (a : α) (st : Sto) (k : α → Sto → Out β) : (Out.ok a st).bind k = k a st := Eq.trans (Eq.refl _) (Eq.refl _)
@[simp] theorem Out.bind_err {α β : Type} (x : Ex) (ρ : En) (st : Sto) (k : α → Sto → Out β) : (Out.err x ρ st).bind k = .err x ρ st := Eq.trans (Eq.refl _) (Eq.refl _)
@[simp] theorem Out.bind_bad {α β : Type} (k : α → Sto → Out β) : (Out.bad : Out α).bind k = .bad := Eq.trans (Eq.refl _) (Eq.refl _)

/-- a world: where the shared objects stand, what they hold, the heap, this frame's own lists, those of the frames around -/
structure Wd where
  μ : Nat → Addr
  st : Sto
  H : Hp
  O : Addr → Prop
  P : Addr → Prop
/-- a shared object stands at a -/
def Wd.Ml (w : Wd) (a : Addr) : Prop := ∃ n mo, w.st[n]? = some (some mo) ∧ w.μ n = a
/-- the written part, the module's names, the exception that an except suite looks at -/
structure Gc where
  K : PySem.W.Frag
  mg : Str → Option Value
  ex : Option (Addr × Value × Option Addr) := none

def TupAt (K : PySem.W.Frag) (H : Hp) (a : Addr) (vs : List V) : Prop :=
  H a = some (.tup vs) ∨ ∃ (o : Obj) (its : Array Value) (n : Nat), K.lookup a = some o ∧ o.cls = .type "tuple" ∧ o.data = .seq its n ∧ its.size ≤ sizeLine ∧ Vals vs its.toList
/-- a list that nobody may rewrite: locked, or of the written part -/
def FzAt (K : PySem.W.Frag) (H : Hp) (a : Addr) (vs : List V) : Prop :=
  vs.length ≤ sizeLine ∧ ((∃ o, H a = some (.frz o (.lst vs))) ∨ ∃ (o : Obj) (its : Array Value) (n : Nat), K.lookup a = some o ∧ o.cls = .type "list" ∧ o.dict = none ∧ o.data = .seq its n ∧ its.size ≤ sizeLine ∧ Vals vs its.toList)
theorem FzAt.sq {K : PySem.W.Frag} {H : Hp} {a : Addr} {vs : List V} (h : FzAt K H a vs) : SqL K H a vs := by
  rcases h.2 with ⟨o, h⟩ | h
  · exact Or.inl (Or.inr ⟨o, h⟩)
  · exact Or.inr h
theorem TupAt.sq {K : PySem.W.Frag} {H : Hp} {a : Addr} {vs : List V} (h : TupAt K H a vs) : SqT K H a vs := by
  rcases h with h | h
  · exact .inl (.inl h)
  · exact .inr h
theorem TupAt.le {K : PySem.W.Frag} {H : Hp} {a : Addr} {vs : List V} (h : TupAt K H a vs) (sz : ∀ a vs, H a = some (.tup vs) → vs.length ≤ sizeLine) : vs.length ≤ sizeLine := by
  rcases h with h | ⟨o, its, n, _, _, _, hz, r⟩
  · exact sz _ _ h
  · have e := r.length
    simp only [Array.length_toList] at e
    omega

mutual
def Rep (K : PySem.W.Frag) (w : Wd) : D → V → Prop
  | .non, v => v = .non
  | .bl b, v => v = .bl b
  | .int i, v => v = .int i
  | .str x, v => v = .str x
  | .tup ds, v => ∃ a vs, v = .ref a ∧ TupAt K w.H a vs ∧ RepL K w ds vs
  | .lst ds, v => ∃ a vs, v = .ref a ∧ w.H a = some (.lst vs) ∧ ¬ w.Ml a ∧ ¬ w.O a ∧ ¬ w.P a ∧ RepL K w ds vs
  | .fz ds, v => ∃ a vs, v = .ref a ∧ FzAt K w.H a vs ∧ RepL K w ds vs
  | .ref n, v => n < w.st.length ∧ v = .ref (w.μ n)
def RepL (K : PySem.W.Frag) (w : Wd) : List D → List V → Prop
  | [], vs => vs = []
  | d :: ds, vs => ∃ v r, vs = v :: r ∧ Rep K w d v ∧ RepL K w ds r
end

section
variable {K : PySem.W.Frag} {w w' : Wd}
theorem RepL.nil : RepL K w [] [] := by unfold RepL; rfl
theorem RepL.cons {d : D} {v : V} {ds : List D} {vs : List V} (h : Rep K w d v) (t : RepL K w ds vs) : RepL K w (d :: ds) (v :: vs) := by
  unfold RepL; exact ⟨v, vs, rfl, h, t⟩
theorem RepL.uncons {d : D} {ds : List D} {vs : List V} (h : RepL K w (d :: ds) vs) : ∃ v r, vs = v :: r ∧ Rep K w d v ∧ RepL K w ds r := by
  unfold RepL at h; exact h
theorem RepL.nil_eq {vs : List V} (h : RepL K w [] vs) : vs = [] := by unfold RepL at h; exact h
theorem RepL.length : ∀ {ds : List D} {vs : List V}, RepL K w ds vs → vs.length = ds.length
  | [], vs, h => by rw [h.nil_eq]; rfl
  | d :: ds, vs, h => by
    obtain ⟨v, r, rfl, _, t⟩ := h.uncons
    rw [List.length_cons, List.length_cons, RepL.length t]
theorem RepL.get : ∀ {ds : List D} {vs : List V} {i : Nat} {d : D}, RepL K w ds vs → ds[i]? = some d → ∃ v, vs[i]? = some v ∧ Rep K w d v
  | [], _, _, _, _, e => by simp at e
  | d :: ds, vs, 0, d', h, e => by
    obtain ⟨v, r, rfl, q, t⟩ := h.uncons
    simp at e; subst e
    exact ⟨v, rfl, q⟩
  | d :: ds, vs, i + 1, d', h, e => by
    obtain ⟨v, r, rfl, q, t⟩ := h.uncons
    obtain ⟨u, e1, e2⟩ := RepL.get (i := i) (d := d') t (by simpa using e)
    exact ⟨u, by simpa using e1, e2⟩
theorem RepL.get' {ds : List D} {vs : List V} {i : Nat} {v : V} (h : RepL K w ds vs) (e : vs[i]? = some v) : ∃ d, ds[i]? = some d ∧ Rep K w d v := by
  have hl := h.length
  have hi : i < vs.length := (List.getElem?_eq_some_iff.mp e).1
  have hi2 : i < ds.length := by omega
  have e2 : ds[i]? = some ds[i] := List.getElem?_eq_getElem hi2
  obtain ⟨u, e3, r⟩ := h.get e2
  rw [e] at e3; cases e3
  exact ⟨_, e2, r⟩
theorem RepL.append : ∀ {ds es : List D} {vs us : List V}, RepL K w ds vs → RepL K w es us → RepL K w (ds ++ es) (vs ++ us)
  | [], es, vs, us, h, t => by rw [h.nil_eq]; exact t
  | d :: ds, es, vs, us, h, t => by
    obtain ⟨v, r, rfl, q, h⟩ := h.uncons
    exact .cons q (RepL.append h t)
theorem RepL.set : ∀ {ds : List D} {vs : List V} (i : Nat) {d : D} {v : V}, RepL K w ds vs → Rep K w d v → RepL K w (ds.set i d) (vs.set i v)
  | [], vs, i, d, v, h, q => by rw [h.nil_eq]; exact .nil
  | d' :: ds, vs, 0, d, v, h, q => by
    obtain ⟨u, r, rfl, _, t⟩ := h.uncons
    exact .cons q t
  | d' :: ds, vs, i + 1, d, v, h, q => by
    obtain ⟨u, r, rfl, p, t⟩ := h.uncons
    exact .cons p (RepL.set i t q)
theorem RepL.take : ∀ {ds : List D} {vs : List V} (n : Nat), RepL K w ds vs → RepL K w (ds.take n) (vs.take n)
  | ds, vs, 0, h => by simp; exact .nil
  | [], vs, n + 1, h => by rw [h.nil_eq]; exact .nil
  | d :: ds, vs, n + 1, h => by
    obtain ⟨u, r, rfl, p, t⟩ := h.uncons
    exact .cons p (RepL.take n t)
theorem RepL.drop : ∀ {ds : List D} {vs : List V} (n : Nat), RepL K w ds vs → RepL K w (ds.drop n) (vs.drop n)
  | ds, vs, 0, h => h
  | [], vs, n + 1, h => by rw [h.nil_eq]; exact .nil
  | d :: ds, vs, n + 1, h => by
    obtain ⟨u, r, rfl, p, t⟩ := h.uncons
    exact RepL.drop n t
theorem RepL.eraseIdx : ∀ {ds : List D} {vs : List V} (n : Nat), RepL K w ds vs → RepL K w (ds.eraseIdx n) (vs.eraseIdx n)
  | [], vs, n, h => by rw [h.nil_eq]; simp; exact .nil
  | d :: ds, vs, 0, h => by
    obtain ⟨u, r, rfl, p, t⟩ := h.uncons
    exact t
  | d :: ds, vs, n + 1, h => by
    obtain ⟨u, r, rfl, p, t⟩ := h.uncons
    exact .cons p (RepL.eraseIdx n t)
theorem RepL.reverse : ∀ {ds : List D} {vs : List V}, RepL K w ds vs → RepL K w ds.reverse vs.reverse
  | [], vs, h => by rw [h.nil_eq]; exact .nil
  | d :: ds, vs, h => by
    obtain ⟨u, r, rfl, p, t⟩ := h.uncons
    rw [List.reverse_cons, List.reverse_cons]
    exact (RepL.reverse t).append (.cons p .nil)
theorem RepL.dropLast {ds : List D} {vs : List V} (h : RepL K w ds vs) : RepL K w ds.dropLast vs.dropLast := by
  rw [List.dropLast_eq_take, List.dropLast_eq_take, h.length]
  exact h.take _
theorem RepL.mapInt : ∀ {ns : List Int} {vs : List V}, RepL K w (ns.map D.int) vs → vs = ns.map V.int
  | [], vs, h => by rw [h.nil_eq]; rfl
  | n :: ns, vs, h => by
    obtain ⟨v, r, rfl, p, t⟩ := RepL.uncons h
    unfold Rep at p
    subst p
    rw [RepL.mapInt t]; rfl
theorem RepL.ofInt : ∀ (ns : List Int), RepL K w (ns.map D.int) (ns.map V.int)
  | [] => .nil
  | n :: ns => .cons (by unfold Rep; rfl) (RepL.ofInt ns)
theorem RepL.mapStr : ∀ {ns : List Str} {vs : List V}, RepL K w (ns.map D.str) vs → vs = ns.map V.str
  | [], vs, h => by rw [h.nil_eq]; rfl
  | n :: ns, vs, h => by
    obtain ⟨v, r, rfl, p, t⟩ := RepL.uncons h
    unfold Rep at p
    subst p
    rw [RepL.mapStr t]; rfl
theorem RepL.ofStr : ∀ (ns : List Str), RepL K w (ns.map D.str) (ns.map V.str)
  | [] => .nil
  | n :: ns => .cons (by unfold Rep; rfl) (RepL.ofStr ns)
theorem RepL.mapBl : ∀ {ns : List Bool} {vs : List V}, RepL K w (ns.map D.bl) vs → vs = ns.map V.bl
  | [], vs, h => by rw [h.nil_eq]; rfl
  | n :: ns, vs, h => by
    obtain ⟨v, r, rfl, p, t⟩ := RepL.uncons h
    unfold Rep at p
    subst p
    rw [RepL.mapBl t]; rfl
end

/-- what is kept between two points of an expression -/
structure LeE (w w' : Wd) : Prop where
  mu : ∀ n, n < w.st.length → w'.μ n = w.μ n
  len : w.st.length ≤ w'.st.length
  pp : w'.P = w.P
  keep : ∀ a o, w.H a = some o → ¬ w.Ml a → w'.H a = some o ∧ ¬ w'.Ml a
  own : ∀ a, w.O a → w'.O a
  ofr : ∀ a o, w.H a = some o → ¬ w.Ml a → w'.O a → w.O a
  dom : ∀ a o, w.H a = some o → ∃ o', w'.H a = some o'
  liv : ∀ (n : Nat) (mo : MO), w.st[n]? = some (some mo) → ∃ mo' : MO, w'.st[n]? = some (some mo')
/-- .. of a def's body -/
structure LeF (w w' : Wd) : Prop where
  mu : ∀ n, n < w.st.length → w'.μ n = w.μ n
  len : w.st.length ≤ w'.st.length
  pp : w'.P = w.P
  keep : ∀ a o, w.H a = some o → ¬ w.Ml a → ¬ w.O a → w'.H a = some o ∧ ¬ w'.Ml a ∧ ¬ w'.O a
  dom : ∀ a o, w.H a = some o → ∃ o', w'.H a = some o'
  liv : ∀ (n : Nat) (mo : MO), w.st[n]? = some (some mo) → ∃ mo' : MO, w'.st[n]? = some (some mo')
theorem LeE.unl {w w' : Wd} (l : LeE w w') {a : Addr} (h : w'.H a = none) : w.H a = none := by
  cases e : w.H a with
  | none => rfl
  | some o =>
    obtain ⟨o', e'⟩ := l.dom a o e
    rw [h] at e'; cases e'
/-- one more list of one's own -/
def Wd.plus (w : Wd) (a : Addr) : Wd := { w with O := fun b => w.O b ∨ b = a }
theorem LeE.refl (w : Wd) : LeE w w := ⟨fun _ _ => rfl, Nat.le_refl _, rfl, fun _ _ h n => ⟨h, n⟩, fun _ h => h, fun _ _ _ _ h => h, fun _ o h => ⟨o, h⟩, fun _ o h => ⟨o, h⟩⟩
theorem LeE.trans {w w1 w2 : Wd} (a : LeE w w1) (b : LeE w1 w2) : LeE w w2 where
  mu := fun n h => (b.mu n (Nat.lt_of_lt_of_le h a.len)).trans (a.mu n h)
  len := Nat.le_trans a.len b.len
  pp := b.pp.trans a.pp
  keep := fun x o h n => let ⟨h1, n1⟩ := a.keep x o h n; b.keep x o h1 n1
  own := fun x h => b.own x (a.own x h)
  ofr := fun x o h n h2 => let ⟨h1, n1⟩ := a.keep x o h n; a.ofr x o h n (b.ofr x o h1 n1 h2)
  dom := fun x o h => let ⟨o1, h1⟩ := a.dom x o h; b.dom x o1 h1
  liv := fun x o h => let ⟨o1, h1⟩ := a.liv x o h; b.liv x o1 h1
theorem LeF.refl (w : Wd) : LeF w w := ⟨fun _ _ => rfl, Nat.le_refl _, rfl, fun _ _ h n m => ⟨h, n, m⟩, fun _ o h => ⟨o, h⟩, fun _ o h => ⟨o, h⟩⟩
theorem LeF.trans {w w1 w2 : Wd} (a : LeF w w1) (b : LeF w1 w2) : LeF w w2 where
  mu := fun n h => (b.mu n (Nat.lt_of_lt_of_le h a.len)).trans (a.mu n h)
  len := Nat.le_trans a.len b.len
  pp := b.pp.trans a.pp
  keep := fun x o h n m => let ⟨h1, n1, m1⟩ := a.keep x o h n m; b.keep x o h1 n1 m1
  dom := fun x o h => let ⟨o1, h1⟩ := a.dom x o h; b.dom x o1 h1
  liv := fun x o h => let ⟨o1, h1⟩ := a.liv x o h; b.liv x o1 h1
theorem LeE.toF {w w' : Wd} (a : LeE w w') : LeF w w' :=
  ⟨a.mu, a.len, a.pp, fun x o h n m => let ⟨h1, n1⟩ := a.keep x o h n; ⟨h1, n1, fun z => m (a.ofr x o h n z)⟩, a.dom, a.liv⟩

/-- a world that is well built -/
structure Good (K : PySem.W.Frag) (w : Wd) : Prop where
  inj : ∀ n m x y, w.st[n]? = some (some x) → w.st[m]? = some (some y) → w.μ n = w.μ m → n = m
  at_ : ∀ n ds, w.st[n]? = some (some (.lst ds)) → ∃ vs, w.H (w.μ n) = some (.lst vs) ∧ RepL K w ds vs
  mo : ∀ a, w.Ml a → ¬ w.O a ∧ ¬ w.P a
  ow : ∀ a, w.O a → (∃ vs, w.H a = some (.lst vs)) ∧ ¬ w.P a
  pr : ∀ a, w.P a → ∃ o, w.H a = some o
  szl : ∀ a vs, w.H a = some (.lst vs) → vs.length ≤ sizeLine
  szt : ∀ a vs, w.H a = some (.tup vs) → vs.length ≤ sizeLine

section
variable {K : PySem.W.Frag} {w w' : Wd}
theorem Good.lst_of_ml (g : Good K w) {a : Addr} (h : w.Ml a) : ∃ vs, w.H a = some (.lst vs) := by
  obtain ⟨n, mo, e, rfl⟩ := h
  cases mo with
  | lst ds =>
    obtain ⟨vs, e2, _⟩ := g.at_ n ds e
    exact ⟨vs, e2⟩
theorem Good.nml_tup (g : Good K w) {a : Addr} {vs : List V} (h : w.H a = some (.tup vs)) : ¬ w.Ml a ∧ ¬ w.O a := by
  refine ⟨fun q => ?_, fun q => ?_⟩
  · obtain ⟨us, e⟩ := g.lst_of_ml q
    rw [h] at e; cases e
  · obtain ⟨⟨us, e⟩, _⟩ := g.ow a q
    rw [h] at e; cases e
theorem Good.nml_frz (g : Good K w) {a : Addr} {o : Obj} {u : HO} (h : w.H a = some (.frz o u)) : ¬ w.Ml a ∧ ¬ w.O a := by
  refine ⟨fun q => ?_, fun q => ?_⟩
  · obtain ⟨us, e⟩ := g.lst_of_ml q
    rw [h] at e; cases e
  · obtain ⟨⟨us, e⟩, _⟩ := g.ow a q
    rw [h] at e; cases e
theorem TupAt.leF (g : Good K w) (l : LeF w w') {a : Addr} {vs : List V} (h : TupAt K w.H a vs) : TupAt K w'.H a vs := by
  rcases h with h | h
  · obtain ⟨n1, n2⟩ := g.nml_tup h
    exact .inl (l.keep a _ h n1 n2).1
  · exact .inr h
mutual
theorem Rep.leF (g : Good K w) (l : LeF w w') : ∀ (d : D) (v : V), Rep K w d v → Rep K w' d v
  | .non, v, h => by unfold Rep at h ⊢; exact h
  | .bl b, v, h => by unfold Rep at h ⊢; exact h
  | .int i, v, h => by unfold Rep at h ⊢; exact h
  | .str x, v, h => by unfold Rep at h ⊢; exact h
  | .tup ds, v, h => by
    unfold Rep at h ⊢
    obtain ⟨a, vs, e, t, r⟩ := h
    exact ⟨a, vs, e, t.leF g l, RepL.leF g l ds vs r⟩
  | .lst ds, v, h => by
    unfold Rep at h ⊢
    obtain ⟨a, vs, e, t, n1, n2, n3, r⟩ := h
    have q := RepL.leF g l ds vs r
    obtain ⟨h1, h2, h3⟩ := l.keep a _ t n1 n2
    exact ⟨a, vs, e, h1, h2, h3, by rw [l.pp]; exact n3, q⟩
  | .fz ds, v, h => by
    unfold Rep at h ⊢
    obtain ⟨a, vs, e, ⟨z, t⟩, r⟩ := h
    refine ⟨a, vs, e, ⟨z, ?_⟩, RepL.leF g l ds vs r⟩
    rcases t with ⟨o, t⟩ | t
    · obtain ⟨n1, n2⟩ := g.nml_frz t
      exact .inl ⟨o, (l.keep a _ t n1 n2).1⟩
    · exact .inr t
  | .ref n, v, h => by
    unfold Rep at h ⊢
    obtain ⟨h1, rfl⟩ := h
    exact ⟨Nat.lt_of_lt_of_le h1 l.len, by rw [l.mu n h1]⟩
theorem RepL.leF (g : Good K w) (l : LeF w w') : ∀ (ds : List D) (vs : List V), RepL K w ds vs → RepL K w' ds vs
  | [], vs, h => by rw [h.nil_eq]; exact .nil
  | d :: ds, vs, h => by
    obtain ⟨v, r, rfl, p, t⟩ := h.uncons
    exact .cons (Rep.leF g l d v p) (RepL.leF g l ds r t)
end
theorem Rep.leE (g : Good K w) (l : LeE w w') {d : D} {v : V} (h : Rep K w d v) : Rep K w' d v := Rep.leF g l.toF d v h
theorem RepL.leE (g : Good K w) (l : LeE w w') {ds : List D} {vs : List V} (h : RepL K w ds vs) : RepL K w' ds vs := RepL.leF g l.toF ds vs h
end

/-- an exception as the layer has it: its class by the module's name, its own dict -/
def RepX (G : Gc) (w : Wd) (x : Ex) (cls : Value) (d : Option Addr) : Prop :=
  G.mg x.cls = some cls ∧ ((x.fs = [] ∧ d = none) ∨ ∃ a fvs, d = some a ∧ w.H a = some (.xd fvs) ∧ ¬ w.P a ∧ ∀ f e, x.fs.lookup f = some e → ∃ v, fvs.lookup f = some v ∧ Rep G.K w e v)
theorem RepX.leF {G : Gc} {w w' : Wd} {x : Ex} {cls : Value} {d : Option Addr} (g : Good G.K w) (l : LeF w w') (h : RepX G w x cls d) : RepX G w' x cls d := by
  obtain ⟨h1, h2⟩ := h
  refine ⟨h1, ?_⟩
  rcases h2 with h2 | ⟨a, fvs, e, e2, n, h2⟩
  · exact .inl h2
  · have n1 : ¬ w.Ml a := fun q => by
      obtain ⟨us, z⟩ := g.lst_of_ml q
      rw [e2] at z; cases z
    have n2 : ¬ w.O a := fun q => by
      obtain ⟨⟨us, z⟩, _⟩ := g.ow a q
      rw [e2] at z; cases z
    refine .inr ⟨a, fvs, e, (l.keep a _ e2 n1 n2).1, by rw [l.pp]; exact n, fun f y hy => ?_⟩
    obtain ⟨v, q1, q2⟩ := h2 f y hy
    exact ⟨v, q1, Rep.leF g l _ _ q2⟩
/-- the frame's slots -/
structure RelEn (G : Gc) (w : Wd) (ρ : En) (σ : L2.St) : Prop where
  len : ρ.length = σ.length
  val : ∀ (i : Nat) (d : D), ρ[i]? = some (some (Sl.val d)) → ∃ v : V, σ[i]? = some (some v) ∧ Rep G.K w d v
  own : ∀ (i : Nat) (ds : List D), ρ[i]? = some (some (Sl.own ds)) → ∃ (a : Addr) (vs : List V), σ[i]? = some (some (V.ref a)) ∧ w.O a ∧ w.H a = some (HO.lst vs) ∧ RepL G.K w ds vs
  sep : ∀ (i j : Nat) (ds es : List D) (a : Addr), ρ[i]? = some (some (Sl.own ds)) → ρ[j]? = some (some (Sl.own es)) → σ[i]? = some (some (V.ref a)) → σ[j]? = some (some (V.ref a)) → i = j
  exn : ∀ (i : Nat) (x : Ex), ρ[i]? = some (some (Sl.exn x)) → ∃ (a : Addr) (cls : Value) (d : Option Addr), G.ex = some (a, cls, d) ∧ σ[i]? = some (some (V.ref a)) ∧ RepX G w x cls d
/-- a is none of the slots' own lists -/
def Apart (ρ : En) (σ : L2.St) (a : Addr) : Prop := ∀ (i : Nat) (ds : List D), ρ[i]? = some (some (Sl.own ds)) → σ[i]? ≠ some (some (V.ref a))

section
variable {G : Gc} {w w' : Wd} {ρ : En} {σ : L2.St}
theorem RelEn.leE (g : Good G.K w) (l : LeE w w') (r : RelEn G w ρ σ) : RelEn G w' ρ σ where
  len := r.len
  val := fun i d e => let ⟨v, h1, h2⟩ := r.val i d e; ⟨v, h1, h2.leE g l⟩
  own := fun i ds e => by
    obtain ⟨a, vs, h1, h2, h3, h4⟩ := r.own i ds e
    have nm : ¬ w.Ml a := fun z => (g.mo a z).1 h2
    exact ⟨a, vs, h1, l.own a h2, (l.keep a _ h3 nm).1, h4.leE g l⟩
  sep := r.sep
  exn := fun i x e => let ⟨a, c, d, h1, h2, h3⟩ := r.exn i x e; ⟨a, c, d, h1, h2, h3.leF g l.toF⟩
theorem set_get {α : Type} {l : List α} {i j : Nat} {x y : α} (h : (l.set i x)[j]? = some y) : (i = j ∧ x = y) ∨ (i ≠ j ∧ l[j]? = some y) := by
  by_cases e : i = j
  · subst e
    by_cases hi : i < l.length
    · rw [List.getElem?_set_self hi] at h; exact .inl ⟨rfl, by simpa using h⟩
    · rw [List.getElem?_eq_none (by simpa using hi)] at h; cases h
  · rw [List.getElem?_set_ne e] at h; exact .inr ⟨e, h⟩
theorem RelEn.setVal (r : RelEn G w ρ σ) {i : Nat} {d : D} {v : V} (h : Rep G.K w d v) (hi : i < ρ.length) : RelEn G w (ρ.set i (some (Sl.val d))) (σ.set i (some v)) where
  exn := fun j x he => by
    rcases set_get he with ⟨rfl, q⟩ | ⟨ne, q⟩
    · cases q
    · obtain ⟨a, c, d, h1, h2, h3⟩ := r.exn j x q
      exact ⟨a, c, d, h1, by rw [List.getElem?_set_ne ne]; exact h2, h3⟩
  len := by simp [r.len]
  val := fun j e he => by
    rcases set_get he with ⟨rfl, q⟩ | ⟨ne, q⟩
    · cases q
      exact ⟨v, by rw [List.getElem?_set_self (by rw [← r.len]; exact hi)], h⟩
    · obtain ⟨u, h1, h2⟩ := r.val j e q
      exact ⟨u, by rw [List.getElem?_set_ne ne]; exact h1, h2⟩
  own := fun j ds he => by
    rcases set_get he with ⟨rfl, q⟩ | ⟨ne, q⟩
    · cases q
    · obtain ⟨a, vs, h1, h2⟩ := r.own j ds q
      exact ⟨a, vs, by rw [List.getElem?_set_ne ne]; exact h1, h2⟩
  sep := fun j k ds es a h1 h2 h3 h4 => by
    rcases set_get h1 with ⟨rfl, q⟩ | ⟨ne, q⟩
    · cases q
    rcases set_get h2 with ⟨rfl, q2⟩ | ⟨ne2, q2⟩
    · cases q2
    rw [List.getElem?_set_ne ne] at h3
    rw [List.getElem?_set_ne ne2] at h4
    exact r.sep j k ds es a q q2 h3 h4
theorem RelEn.setOwn (r : RelEn G w ρ σ) {i : Nat} {ds : List D} {vs : List V} {a : Addr} (hO : w.O a) (hH : w.H a = some (.lst vs)) (h : RepL G.K w ds vs) (ap : Apart ρ σ a) (hi : i < ρ.length) :
    RelEn G w (ρ.set i (some (Sl.own ds))) (σ.set i (some (.ref a))) where
  exn := fun j x he => by
    rcases set_get he with ⟨rfl, q⟩ | ⟨ne, q⟩
    · cases q
    · obtain ⟨a, c, d, h1, h2, h3⟩ := r.exn j x q
      exact ⟨a, c, d, h1, by rw [List.getElem?_set_ne ne]; exact h2, h3⟩
  len := by simp [r.len]
  val := fun j e he => by
    rcases set_get he with ⟨rfl, q⟩ | ⟨ne, q⟩
    · cases q
    · obtain ⟨u, h1, h2⟩ := r.val j e q
      exact ⟨u, by rw [List.getElem?_set_ne ne]; exact h1, h2⟩
  own := fun j es he => by
    rcases set_get he with ⟨rfl, q⟩ | ⟨ne, q⟩
    · cases q
      exact ⟨a, vs, by rw [List.getElem?_set_self (by rw [← r.len]; exact hi)], hO, hH, h⟩
    · obtain ⟨b, us, h1, h2⟩ := r.own j es q
      exact ⟨b, us, by rw [List.getElem?_set_ne ne]; exact h1, h2⟩
  sep := fun j k es fs b h1 h2 h3 h4 => by
    rcases set_get h1 with ⟨rfl, q⟩ | ⟨ne, q⟩
    · rcases set_get h2 with ⟨rfl, q2⟩ | ⟨ne2, q2⟩
      · rfl
      · rw [List.getElem?_set_self (by rw [← r.len]; exact hi)] at h3
        rw [List.getElem?_set_ne ne2] at h4
        simp only [Option.some.injEq, V.ref.injEq] at h3
        subst h3
        exact absurd h4 (ap k fs q2)
    · rcases set_get h2 with ⟨rfl, q2⟩ | ⟨ne2, q2⟩
      · rw [List.getElem?_set_self (by rw [← r.len]; exact hi)] at h4
        rw [List.getElem?_set_ne ne] at h3
        simp only [Option.some.injEq, V.ref.injEq] at h4
        subst h4
        exact absurd h3 (ap j es q)
      · rw [List.getElem?_set_ne ne] at h3
        rw [List.getElem?_set_ne ne2] at h4
        exact r.sep j k es fs b q q2 h3 h4
end

/-! ### weakest wishes -/
abbrev WX := L2.WX
/-- what is wanted of an expression's outcome -/
def WpE {α : Type} (G : Gc) (W : WX) (w : Wd) (o : Out α) (P : α → Wd → Prop) : Prop := match o with
  | .ok a st' => ∀ w', LeE w w' → Good G.K w' → w'.st = st' → P a w'
  | .err x ρ' st' => ∀ w' σ' cls d, LeF w w' → Good G.K w' → w'.st = st' → RelEn G w' ρ' σ' → RepX G w' x cls d → W cls d σ' w'.H
  | .bad => False
/-- .. of a statement's -/
def WpS {α : Type} (G : Gc) (W : WX) (w : Wd) (o : Out α) (P : α → Wd → Prop) : Prop := match o with
  | .ok a st' => ∀ w', LeF w w' → Good G.K w' → w'.st = st' → P a w'
  | .err x ρ' st' => ∀ w' σ' cls d, LeF w w' → Good G.K w' → w'.st = st' → RelEn G w' ρ' σ' → RepX G w' x cls d → W cls d σ' w'.H
  | .bad => False
section
variable {G : Gc} {W : WX} {w w1 : Wd} {α β : Type} {o : Out α} {P Q : α → Wd → Prop}
theorem WpE.le (l : LeE w w1) (h : WpE G W w o P) : WpE G W w1 o P := by
  cases o with
  | ok a st => exact fun w' l' g e => h w' (l.trans l') g e
  | err x ρ st => exact fun w' σ' c d l' g e r x => h w' σ' c d (l.toF.trans l') g e r x
  | bad => exact h
theorem WpS.le (l : LeF w w1) (h : WpS G W w o P) : WpS G W w1 o P := by
  cases o with
  | ok a st => exact fun w' l' g e => h w' (l.trans l') g e
  | err x ρ st => exact fun w' σ' c d l' g e r x => h w' σ' c d (l.trans l') g e r x
  | bad => exact h
theorem WpE.mono (h : WpE G W w o P) (f : ∀ a w', LeE w w' → Good G.K w' → P a w' → Q a w') : WpE G W w o Q := by
  cases o with
  | ok a st => exact fun w' l' g e => f a w' l' g (h w' l' g e)
  | err x ρ st => exact h
  | bad => exact h
theorem WpS.mono (h : WpS G W w o P) (f : ∀ a w', LeF w w' → Good G.K w' → P a w' → Q a w') : WpS G W w o Q := by
  cases o with
  | ok a st => exact fun w' l' g e => f a w' l' g (h w' l' g e)
  | err x ρ st => exact h
  | bad => exact h
/-- one after the other -/
theorem WpE.bind {k : α → Sto → Out β} {R : β → Wd → Prop} (h : WpE G W w (o.bind k) R) : WpE G W w o (fun a w' => WpE G W w' (k a w'.st) R) := by
  cases o with
  | ok a st => exact fun w' l' g e => by subst e; exact WpE.le l' h
  | err x ρ st => exact h
  | bad => exact h
theorem WpS.bind {k : α → Sto → Out β} {R : β → Wd → Prop} (h : WpS G W w (o.bind k) R) : WpS G W w o (fun a w' => WpS G W w' (k a w'.st) R) := by
  cases o with
  | ok a st => exact fun w' l' g e => by subst e; exact WpS.le l' h
  | err x ρ st => exact h
  | bad => exact h
/-- an expression within a statement -/
theorem WpS.bindE {k : α → Sto → Out β} {R : β → Wd → Prop} (h : WpS G W w (o.bind k) R) : WpE G W w o (fun a w' => WpS G W w' (k a w'.st) R) := by
  cases o with
  | ok a st => exact fun w' l' g e => by subst e; exact WpS.le l'.toF h
  | err x ρ st => exact h
  | bad => exact h
/-- .. seen from the start -/
theorem WpS.bindE0 {k : α → Sto → Out β} {R : β → Wd → Prop} (h : WpS G W w (o.bind k) R) : WpE G W w o (fun a w' => WpS G W w (k a w'.st) R) := by
  cases o with
  | ok a st => exact fun w' l' g e => by subst e; exact h
  | err x ρ st => exact h
  | bad => exact h
end
end Ds
set_option Elab.async false
set_option linter.all false
set_option maxRecDepth 100000
set_option maxHeartbeats 1000000
set_option autoImplicit false
/-! DsB: the judgements over plain data; names, constants, displays, operators, comparisons, tests, subscripts, slices. -/
namespace Ds
open PySem PySem.Spec PyProof.Rows L2
abbrev SE := En → Sto → Out D
abbrev SL := En → Sto → Out (List D)
abbrev SB := En → Sto → Out Bool
def xof (X : Cx) : Option (Addr × Value × Option Addr) := bif X.calm then none else X.pn.head?.map fun p => (p.1, p.2.cls, p.2.dict)
abbrev gc (X : Cx) : Gc := ⟨X.K, X.mg, xof X⟩

/-! ### new objects -/
section
variable {K : PySem.W.Frag} {w : Wd} {p : Addr} {vs : List V} {ds : List D}
theorem Good.fresh (g : Good K w) (h : w.H p = none) : ¬ w.Ml p ∧ ¬ w.O p ∧ ¬ w.P p := by
  refine ⟨fun q => ?_, fun q => ?_, fun q => ?_⟩
  · obtain ⟨us, e⟩ := g.lst_of_ml q; rw [h] at e; cases e
  · obtain ⟨⟨us, e⟩, _⟩ := g.ow p q; rw [h] at e; cases e
  · obtain ⟨o, e⟩ := g.pr p q; rw [h] at e; cases e
theorem LeE.laid (g : Good K w) (h : w.H p = none) (o : HO) : LeE w { w with H := upd w.H p o } where
  mu := fun _ _ => rfl
  len := Nat.le_refl _
  pp := rfl
  keep := fun a o' e n => ⟨by show upd w.H p o a = _; rw [upd_ne (ne_of_none e h)]; exact e, n⟩
  own := fun _ h => h
  ofr := fun _ _ _ _ h => h
  dom := fun a o' e => ⟨o', by show upd w.H p o a = _; rw [upd_ne (ne_of_none e h)]; exact e⟩
  liv := fun _ o h => ⟨o, h⟩
theorem Good.laid (g : Good K w) (h : w.H p = none) {o : HO} (z1 : ∀ vs, o = .lst vs → vs.length ≤ sizeLine) (z2 : ∀ vs, o = .tup vs → vs.length ≤ sizeLine) : Good K { w with H := upd w.H p o } := by
  have l := LeE.laid g h o
  have ne : ∀ {a : Addr} {u : HO}, w.H a = some u → a ≠ p := fun e => ne_of_none e h
  refine ⟨g.inj, fun n ds e => ?_, g.mo, fun a q => ?_, fun a q => ?_, fun a vs e => ?_, fun a vs e => ?_⟩
  · obtain ⟨vs, e1, r⟩ := g.at_ n ds e
    exact ⟨vs, by show upd w.H p o _ = _; rw [upd_ne (ne e1)]; exact e1, r.leE g l⟩
  · obtain ⟨⟨us, e⟩, n⟩ := g.ow a q
    exact ⟨⟨us, by show upd w.H p o _ = _; rw [upd_ne (ne e)]; exact e⟩, n⟩
  · obtain ⟨u, e⟩ := g.pr a q
    exact ⟨u, by show upd w.H p o _ = _; rw [upd_ne (ne e)]; exact e⟩
  · by_cases q : a = p
    · subst q
      have e' : upd w.H a o a = some (.lst vs) := e
      rw [upd_same] at e'; exact z1 vs (Option.some.inj e')
    · have e' : upd w.H p o a = some (.lst vs) := e
      rw [upd_ne q] at e'; exact g.szl a vs e'
  · by_cases q : a = p
    · subst q
      have e' : upd w.H a o a = some (.tup vs) := e
      rw [upd_same] at e'; exact z2 vs (Option.some.inj e')
    · have e' : upd w.H p o a = some (.tup vs) := e
      rw [upd_ne q] at e'; exact g.szt a vs e'
/-- a new tuple -/
theorem new_tup (g : Good K w) (h : w.H p = none) (r : RepL K w ds vs) (z : vs.length ≤ sizeLine) :
    LeE w { w with H := upd w.H p (.tup vs) } ∧ Good K { w with H := upd w.H p (.tup vs) } ∧ Rep K { w with H := upd w.H p (.tup vs) } (.tup ds) (.ref p) := by
  have l := LeE.laid g h (.tup vs)
  refine ⟨l, g.laid h (fun _ e => nomatch e) (fun _ e => by cases e; exact z), ?_⟩
  unfold Rep
  exact ⟨p, vs, rfl, .inl upd_same, r.leE g l⟩
/-- a new list, frozen -/
theorem new_lst (g : Good K w) (h : w.H p = none) (r : RepL K w ds vs) (z : vs.length ≤ sizeLine) :
    LeE w { w with H := upd w.H p (.lst vs) } ∧ Good K { w with H := upd w.H p (.lst vs) } ∧ Rep K { w with H := upd w.H p (.lst vs) } (.lst ds) (.ref p) := by
  have l := LeE.laid g h (.lst vs)
  obtain ⟨n1, n2, n3⟩ := g.fresh h
  refine ⟨l, g.laid h (fun _ e => by cases e; exact z) (fun _ e => nomatch e), ?_⟩
  unfold Rep
  exact ⟨p, vs, rfl, upd_same, n1, n2, n3, r.leE g l⟩
/-- a new list, one's own -/
theorem new_own (g : Good K w) (h : w.H p = none) (r : RepL K w ds vs) (z : vs.length ≤ sizeLine) :
    LeE w (Wd.plus { w with H := upd w.H p (.lst vs) } p) ∧ Good K (Wd.plus { w with H := upd w.H p (.lst vs) } p) ∧ RepL K (Wd.plus { w with H := upd w.H p (.lst vs) } p) ds vs := by
  obtain ⟨n1, n2, n3⟩ := g.fresh h
  have l0 := LeE.laid g h (.lst vs)
  have g0 := g.laid h (o := .lst vs) (fun _ e => by cases e; exact z) (fun _ e => nomatch e)
  have l : LeE w (Wd.plus { w with H := upd w.H p (.lst vs) } p) := ⟨l0.mu, l0.len, l0.pp, l0.keep, fun _ q => .inl q, fun a o e _ q => by
    rcases q with q | q
    · exact q
    · exact absurd e (by subst q; rw [h]; intro z; cases z), l0.dom, l0.liv⟩
  refine ⟨l, ⟨g.inj, fun n es e => ?_, fun a q => ?_, fun a q => ?_, g0.pr, g0.szl, g0.szt⟩, r.leE g l⟩
  · obtain ⟨us, e1, r1⟩ := g.at_ n es e
    exact ⟨us, (show upd w.H p (.lst vs) (w.μ n) = some (.lst us) by rw [upd_ne (ne_of_none e1 h)]; exact e1), r1.leE g l⟩
  · obtain ⟨q1, q2⟩ := g.mo a q
    exact ⟨fun z => z.elim q1 fun z => by subst z; exact n1 q, q2⟩
  · rcases q with q | q
    · exact g0.ow a q
    · subst q
      exact ⟨⟨vs, upd_same⟩, n3⟩
/-- a list that was just made at a -/
structure Made (K : PySem.W.Frag) (w w' : Wd) (a : Addr) (ds : List D) (vs : List V) : Prop where
  old : w.H a = none
  at_ : w'.H a = some (.lst vs)
  no : ¬ w'.O a
  good : Good K (w'.plus a)
  rep : RepL K (w'.plus a) ds vs
theorem Made.leF (w : Wd) (a : Addr) : LeF (w.plus a) w :=
  ⟨fun _ _ => rfl, Nat.le_refl _, rfl, fun b o e n m => ⟨e, n, fun z => m (.inl z)⟩, fun _ o e => ⟨o, e⟩, fun _ o e => ⟨o, e⟩⟩
/-- .. frozen -/
theorem Made.frozen {w' : Wd} {a : Addr} (m : Made K w w' a ds vs) : Rep K w' (.lst ds) (.ref a) := by
  have q : (w'.plus a).O a := .inr rfl
  unfold Rep
  exact ⟨a, vs, rfl, m.at_, fun z => (m.good.mo a z).1 q, m.no, (m.good.ow a q).2, RepL.leF m.good (Made.leF w' a) _ _ m.rep⟩
theorem Made.le {w' : Wd} {a : Addr} (m : Made K w w' a ds vs) (l : LeE w w') : LeE w (w'.plus a) :=
  ⟨l.mu, l.len, l.pp, l.keep, fun b q => .inl (l.own b q), fun b o e n q => by
    rcases q with q | q
    · exact l.ofr b o e n q
    · exact absurd e (by subst q; rw [m.old]; intro z; cases z), l.dom, l.liv⟩
theorem Made.new {w1 : Wd} (l : LeE w w1) (g : Good K w1) (h : w1.H p = none) (r : RepL K w1 ds vs) (z : vs.length ≤ sizeLine) : Made K w { w1 with H := upd w1.H p (.lst vs) } p ds vs := by
  obtain ⟨l1, g1, r1⟩ := new_own g h r z
  exact ⟨l.unl h, upd_same, (g.fresh h).2.1, g1, r1⟩
theorem Made.since {w1 w' : Wd} {a : Addr} (l : LeE w w1) (m : Made K w1 w' a ds vs) : Made K w w' a ds vs := ⟨l.unl m.old, m.at_, m.no, m.good, m.rep⟩
end

/-! ### judgements -/
def tD (G : Gc) (W : WX) (f : SE) : TE := fun σ H Q => ∃ (w : Wd) (ρ : En), w.H = H ∧ Good G.K w ∧ RelEn G w ρ σ ∧ WpE G W w (f ρ w.st) fun d w' => ∀ v, Rep G.K w' d v → Q v w'.H
def tO (G : Gc) (W : WX) (f : SL) : TE := fun σ H Q => ∃ (w : Wd) (ρ : En), w.H = H ∧ Good G.K w ∧ RelEn G w ρ σ ∧
  WpE G W w (f ρ w.st) fun ds w' => ∀ a vs, Made G.K w w' a ds vs → Q (.ref a) w'.H
/-- a value to be read alone: a list that is not frozen, too -/
def Vw (K : PySem.W.Frag) (w : Wd) (d : D) (v : V) : Prop := Rep K w d v ∨ ∃ ds a vs, d = .lst ds ∧ v = .ref a ∧ w.H a = some (.lst vs) ∧ RepL K w ds vs
def tV (G : Gc) (W : WX) (f : SE) : TE := fun σ H Q => ∃ (w : Wd) (ρ : En), w.H = H ∧ Good G.K w ∧ RelEn G w ρ σ ∧ WpE G W w (f ρ w.st) fun d w' => ∀ v, Vw G.K w' d v → Q v w'.H
def tL (G : Gc) (W : WX) (f : SL) : TA := fun σ H Q => ∃ (w : Wd) (ρ : En), w.H = H ∧ Good G.K w ∧ RelEn G w ρ σ ∧ WpE G W w (f ρ w.st) fun ds w' => ∀ vs, RepL G.K w' ds vs → Q vs w'.H
def tT (G : Gc) (W : WX) (f : SB) : TT := fun σ H Q => ∃ (w : Wd) (ρ : En), w.H = H ∧ Good G.K w ∧ RelEn G w ρ σ ∧ WpE G W w (f ρ w.st) fun b w' => Q b w'.H
structure DE (X : Cx) (W : WX) (e : Expr) (f : SE) : Prop where pe : PE X e (tD (gc X) W f)
structure DO (X : Cx) (W : WX) (e : Expr) (f : SL) : Prop where pe : PE X e (tO (gc X) W f)
structure DV (X : Cx) (W : WX) (e : Expr) (f : SE) : Prop where pe : PE X e (tV (gc X) W f)
structure DA (X : Cx) (W : WX) (es : List Expr) (f : SL) : Prop where pa : PA X es (tL (gc X) W f)
structure DT (X : Cx) (W : WX) (e : Expr) (f : SB) : Prop where pt : PT X e (tT (gc X) W f)
structure DW (X : Cx) (W : WX) (e : Expr) (f : SB) : Prop where pw : PW X e (tT (gc X) W f)
theorem PE_of {X : Cx} {e : Expr} {t t' : TE} (h : PE X e t) (k : ∀ σ H Q, t' σ H Q → t σ H Q) : PE X e t' := ⟨fun pins s σ H Q I q => h.run pins s σ H Q I (k σ H Q q)⟩
theorem PT_of {X : Cx} {e : Expr} {t t' : TT} (h : PT X e t) (k : ∀ σ H Q, t' σ H Q → t σ H Q) : PT X e t' := ⟨fun pins s σ H Q I q => h.run pins s σ H Q I (k σ H Q q)⟩
theorem PW_of {X : Cx} {e : Expr} {t t' : TT} (h : PW X e t) (k : ∀ σ H Q, t' σ H Q → t σ H Q) : PW X e t' := ⟨fun wh pins s σ H Q I q => h.run wh pins s σ H Q I (k σ H Q q)⟩
theorem PA_of {X : Cx} {e : List Expr} {t t' : TA} (h : PA X e t) (k : ∀ σ H Q, t' σ H Q → t σ H Q) : PA X e t' := ⟨fun pos pins s σ H Q I q => h.run pos pins s σ H Q I (k σ H Q q)⟩
theorem DW.dt {X : Cx} {W : WX} {e : Expr} {f : SB} (h : DW X W e f) : DT X W e f := ⟨h.pw.pt⟩

section
variable {G : Gc} {W : WX} {w : Wd} {α : Type} {P : α → Wd → Prop}
/-- an outcome that leaves the world -/
theorem WpE.now {a : α} (g : Good G.K w) (h : WpE G W w (.ok a w.st) P) : P a w := h w (LeE.refl w) g rfl
theorem WpE.at' {a : α} {st : Sto} (h : WpE G W w (.ok a st) P) {w' : Wd} (l : LeE w w') (g : Good G.K w') (e : w'.st = st) : P a w' := h w' l g e
end

/-! ### plain data compared -/
mutual
def D.py : D → PyData
  | .non => .none
  | .bl b => .bool b
  | .int i => .int i
  | .str x => .str x
  | .tup xs => .tuple (D.pys xs)
  | .lst xs => .list (D.pys xs)
  | .fz xs => .list (D.pys xs)
  | .ref _ => .dict []
def D.pys : List D → List PyData
  | [] => []
  | d :: ds => d.py :: D.pys ds
end
mutual
theorem Rep.dp {K : PySem.W.Frag} {w : Wd} : ∀ (d : D) (v : V), Rep K w d v → d.py.plain = true → Dp K w.H v d.py
  | .non, v, h, _ => by unfold Rep at h; subst h; exact .non
  | .bl b, v, h, _ => by unfold Rep at h; subst h; exact .bl b
  | .int i, v, h, _ => by unfold Rep at h; subst h; exact .int i
  | .str x, v, h, _ => by unfold Rep at h; subst h; exact .str x
  | .tup ds, v, h, p => by
    unfold Rep at h
    obtain ⟨a, vs, rfl, t, r⟩ := h
    exact .tup t.sq (RepL.dp ds vs r p)
  | .lst ds, v, h, p => by
    unfold Rep at h
    obtain ⟨a, vs, rfl, t, _, _, _, r⟩ := h
    exact .lst (.inl (.inl t)) (RepL.dp ds vs r p)
  | .fz ds, v, h, p => by
    unfold Rep at h
    obtain ⟨a, vs, rfl, t, r⟩ := h
    exact .lst t.sq (RepL.dp ds vs r p)
  | .ref n, v, h, p => by cases (show false = true from p)
theorem RepL.dp {K : PySem.W.Frag} {w : Wd} : ∀ (ds : List D) (vs : List V), RepL K w ds vs → PyData.plainAll (D.pys ds) = true → DpAll K w.H vs (D.pys ds)
  | [], vs, h, _ => by rw [h.nil_eq]; exact .nil
  | d :: ds, vs, h, p => by
    obtain ⟨v, r, rfl, q, t⟩ := h.uncons
    have p' : (d.py.plain && PyData.plainAll (D.pys ds)) = true := p
    obtain ⟨p1, p2⟩ := Bool.and_eq_true_iff.mp p'
    exact .cons (Rep.dp d v q p1) (RepL.dp ds r t p2)
end
theorem Vw.dp {K : PySem.W.Frag} {w : Wd} {d : D} {v : V} (h : Vw K w d v) (p : d.py.plain = true) : Dp K w.H v d.py := by
  rcases h with h | ⟨ds, a, vs, rfl, rfl, e, r⟩
  · exact h.dp d v p
  · exact .lst (.inl (.inl e)) (RepL.dp ds vs r p)
end Ds
set_option Elab.async false
set_option linter.all false
set_option maxRecDepth 100000
set_option maxHeartbeats 1000000
set_option autoImplicit false
/-! DsC: rules: names, constants, displays, arithmetic, comparisons, tests. -/
namespace Ds
open PySem PySem.Spec PyProof.Rows L2
section
variable {X : Cx} {W : WX} {e a b c : Expr} {es : List Expr} {f g h : SE} {pos : Pos}

/-! ### names and constants -/
def sVar (i : Nat) : SE := fun ρ st => match ρ[i]? with
  | some (some (.val d)) => .ok d st
  | _ => .bad
def sOwn (i : Nat) : SE := fun ρ st => match ρ[i]? with
  | some (some (.own ds)) => .ok (.lst ds) st
  | _ => .bad
def sC (d : D) : SE := fun _ st => .ok d st
theorem sVar_val {i : Nat} {ρ : En} {st : Sto} {d : D} (h : ρ[i]? = some (some (.val d))) : sVar i ρ st = .ok d st := by unfold sVar; rw [h]
theorem sOwn_own {i : Nat} {ρ : En} {st : Sto} {ds : List D} (h : ρ[i]? = some (some (.own ds))) : sOwn i ρ st = .ok (.lst ds) st := by unfold sOwn; rw [h]
theorem de_var {i : Nat} {x : Str} (hN : X.N[i]? = some x := by rfl) (hv : Vis X.env.scope x := by first | exact Or.inl rfl | exact Or.inr (Or.inl rfl) | exact Or.inr (Or.inr rfl)) (hd : (x == ("__debug__" : Str)) = false := by decide)
    (hcd : (x == ("__classdict__" : Str)) = false := by decide) : DE X W (.Name x pos) (sVar i) := by
  refine ⟨PE_of (pe_var hN hv hd hcd) fun σ H Q ⟨w, ρ, e, gd, rl, wp⟩ => ?_⟩
  subst e
  unfold sVar at wp
  split at wp
  · rename_i d hd
    obtain ⟨v, e1, r⟩ := rl.val i d hd
    exact ⟨v, e1, wp.now gd v r⟩
  · exact wp.elim
theorem dv_own {i : Nat} {x : Str} (hN : X.N[i]? = some x := by rfl) (hv : Vis X.env.scope x := by first | exact Or.inl rfl | exact Or.inr (Or.inl rfl) | exact Or.inr (Or.inr rfl)) (hd : (x == ("__debug__" : Str)) = false := by decide)
    (hcd : (x == ("__classdict__" : Str)) = false := by decide) : DV X W (.Name x pos) (sOwn i) := by
  refine ⟨PE_of (pe_var hN hv hd hcd) fun σ H Q ⟨w, ρ, e, gd, rl, wp⟩ => ?_⟩
  subst e
  unfold sOwn at wp
  split at wp
  · rename_i d hd
    obtain ⟨a, vs, e1, _, e2, r⟩ := rl.own i d hd
    exact ⟨_, e1, wp.now gd _ (.inr ⟨d, a, vs, rfl, rfl, e2, r⟩)⟩
  · exact wp.elim
theorem de_c {d : D} {v : V} (h : PE X e (tC v)) (r : ∀ w, Rep X.K w d v) : DE X W e (sC d) := by
  refine ⟨PE_of h fun σ H Q ⟨w, ρ, e, gd, rl, wp⟩ => ?_⟩
  subst e
  exact wp.now gd v (r w)
theorem rep_int {K : PySem.W.Frag} {w : Wd} {i : Int} : Rep K w (.int i) (.int i) := by unfold Rep; rfl
theorem rep_str {K : PySem.W.Frag} {w : Wd} {i : Str} : Rep K w (.str i) (.str i) := by unfold Rep; rfl
theorem rep_bl {K : PySem.W.Frag} {w : Wd} {i : Bool} : Rep K w (.bl i) (.bl i) := by unfold Rep; rfl
theorem rep_non {K : PySem.W.Frag} {w : Wd} : Rep K w .non .non := by unfold Rep; rfl
theorem Rep.int_eq {K : PySem.W.Frag} {w : Wd} {i : Int} {v : V} (h : Rep K w (.int i) v) : v = .int i := by unfold Rep at h; exact h
theorem Rep.str_eq {K : PySem.W.Frag} {w : Wd} {i : Str} {v : V} (h : Rep K w (.str i) v) : v = .str i := by unfold Rep at h; exact h
theorem Rep.bl_eq {K : PySem.W.Frag} {w : Wd} {i : Bool} {v : V} (h : Rep K w (.bl i) v) : v = .bl i := by unfold Rep at h; exact h
theorem Rep.non_eq {K : PySem.W.Frag} {w : Wd} {v : V} (h : Rep K w .non v) : v = .non := by unfold Rep at h; exact h
theorem Rep.tup_eq {K : PySem.W.Frag} {w : Wd} {ds : List D} {v : V} (h : Rep K w (.tup ds) v) : ∃ a vs, v = .ref a ∧ TupAt K w.H a vs ∧ RepL K w ds vs := by unfold Rep at h; exact h
theorem Rep.lst_eq {K : PySem.W.Frag} {w : Wd} {ds : List D} {v : V} (h : Rep K w (.lst ds) v) : ∃ a vs, v = .ref a ∧ w.H a = some (.lst vs) ∧ RepL K w ds vs := by
  unfold Rep at h
  obtain ⟨a, vs, e, t, _, _, _, r⟩ := h
  exact ⟨a, vs, e, t, r⟩
theorem Rep.fz_eq {K : PySem.W.Frag} {w : Wd} {ds : List D} {v : V} (h : Rep K w (.fz ds) v) : ∃ a vs, v = .ref a ∧ FzAt K w.H a vs ∧ RepL K w ds vs := by unfold Rep at h; exact h
theorem Vw.of {K : PySem.W.Frag} {w : Wd} {d : D} {v : V} (h : Rep K w d v) : Vw K w d v := .inl h
theorem Vw.lst_eq {K : PySem.W.Frag} {w : Wd} {ds : List D} {v : V} (h : Vw K w (.lst ds) v) : ∃ a vs, v = .ref a ∧ w.H a = some (.lst vs) ∧ RepL K w ds vs := by
  rcases h with h | ⟨es, a, vs, e, h⟩
  · exact h.lst_eq
  · cases e; exact ⟨a, vs, h⟩
theorem Vw.rep {K : PySem.W.Frag} {w : Wd} {d : D} {v : V} (h : Vw K w d v) (n : ∀ ds, d ≠ .lst ds) : Rep K w d v := by
  rcases h with h | ⟨es, a, vs, e, h⟩
  · exact h
  · exact absurd e (n es)
theorem Vw.leE {K : PySem.W.Frag} {w w' : Wd} {d : D} {v : V} (g : Good K w) (l : LeE w w') (h : Vw K w d v) (n : ∀ a vs, d = .lst vs → v = .ref a → ¬ w.Ml a) : Vw K w' d v := by
  rcases h with h | ⟨es, a, vs, rfl, rfl, e, r⟩
  · exact .inl (h.leE g l)
  · exact .inr ⟨es, a, vs, rfl, rfl, (l.keep a _ e (n a es rfl rfl)).1, r.leE g l⟩
theorem de_int {i : Int} {j : Nat} : DE X W (.Constant (.int i) j pos) (sC (.int i)) := de_c pe_int fun _ => rep_int
theorem de_str {i : Str} {j : Nat} : DE X W (.Constant (.str i) j pos) (sC (.str i)) := de_c pe_str fun _ => rep_str
theorem de_bl {i : Bool} {j : Nat} : DE X W (.Constant (.bool i) j pos) (sC (.bl i)) := de_c pe_bl fun _ => rep_bl
theorem de_non {j : Nat} : DE X W (.Constant .none j pos) (sC .non) := de_c pe_non fun _ => rep_non
/-- a module's int, text -/
theorem de_gint {x : Str} {i : Int} (hg : Gl X x) (hm : ∃ t, X.mg x = some (.int i t)) (hd : (x == ("__debug__" : Str)) = false := by decide) : DE X W (.Name x pos) (sC (.int i)) := by
  obtain ⟨t, hm⟩ := hm
  exact de_c (v := .int i) (pe_glob hg hm ⟨t, rfl⟩ hd) fun _ => rep_int
theorem de_gstr {x : Str} {i : Str} (hg : Gl X x) (hm : ∃ t, X.mg x = some (.str i t)) (hd : (x == ("__debug__" : Str)) = false := by decide) : DE X W (.Name x pos) (sC (.str i)) := by
  obtain ⟨t, hm⟩ := hm
  exact de_c (v := .str i) (pe_glob hg hm ⟨t, rfl⟩ hd) fun _ => rep_str

/-! ### what is never reached -/
def sBad : SE := fun _ _ => .bad
theorem de_bad {t : TE} (h : PE X e t) : DE X W e sBad := ⟨PE_of h fun σ H Q ⟨w, ρ, e, gd, rl, wp⟩ => wp.elim⟩
theorem de_never : DE X W e sBad := ⟨⟨fun pins s σ H Q I ⟨w, ρ, e, gd, rl, wp⟩ => wp.elim⟩⟩
theorem dt_never : DT X W e (fun _ _ => .bad) := ⟨⟨fun pins s σ H Q I ⟨w, ρ, e, gd, rl, wp⟩ => wp.elim⟩⟩
theorem do_never : DO X W e (fun _ _ => .bad) := ⟨⟨fun pins s σ H Q I ⟨w, ρ, e, gd, rl, wp⟩ => wp.elim⟩⟩
theorem dv_never : DV X W e sBad := ⟨⟨fun pins s σ H Q I ⟨w, ρ, e, gd, rl, wp⟩ => wp.elim⟩⟩

/-! ### from one judgement to another -/
/-- shared lists are read by what they hold now -/
def derefD (d : D) (st : Sto) : Out D := match d with
  | .ref n => (match st[n]? with
    | some (some (.lst ds)) => .ok (.lst ds) st
    | _ => .bad)
  | d => .ok d st
@[simp] theorem derefD_non {st : Sto} : derefD .non st = .ok .non st := Eq.trans (Eq.refl _) (Eq.refl _)
@[simp] theorem derefD_bl {st : Sto} {b : Bool} : derefD (.bl b) st = .ok (.bl b) st := Eq.trans (Eq.refl _) (Eq.refl _)
@[simp] theorem derefD_int {st : Sto} {b : Int} : derefD (.int b) st = .ok (.int b) st := Eq.trans (Eq.refl _) (Eq.refl _)
@[simp] theorem derefD_str {st : Sto} {b : Str} : derefD (.str b) st = .ok (.str b) st := Eq.trans (Eq.refl _) (Eq.refl _)
@[simp] theorem derefD_tup {st : Sto} {b : List D} : derefD (.tup b) st = .ok (.tup b) st := Eq.trans (Eq.refl _) (Eq.refl _)
@[simp] theorem derefD_lst {st : Sto} {b : List D} : derefD (.lst b) st = .ok (.lst b) st := Eq.trans (Eq.refl _) (Eq.refl _)
@[simp] theorem derefD_fz {st : Sto} {b : List D} : derefD (.fz b) st = .ok (.fz b) st := Eq.trans (Eq.refl _) (Eq.refl _)
theorem derefD_ref {st : Sto} {n : Nat} {ds : List D} (h : st[n]? = some (some (.lst ds))) : derefD (.ref n) st = .ok (.lst ds) st := by unfold derefD; simp only [h]
def sV (f : SE) : SE := fun ρ st => (f ρ st).bind derefD
theorem dv_of (he : DE X W e f) : DV X W e (sV f) := by
  refine ⟨PE_of he.pe fun σ H Q ⟨w, ρ, e, gd, rl, wp⟩ => ⟨w, ρ, e, gd, rl, (WpE.bind wp).mono fun d w' l g' q v r => ?_⟩⟩
  cases d with
  | ref n =>
    unfold derefD at q
    simp only at q
    split at q
    · rename_i ds hd
      obtain ⟨vs, e1, r1⟩ := g'.at_ n ds hd
      have r' := r
      unfold Rep at r'
      obtain ⟨_, rfl⟩ := r'
      exact q.now g' _ (.inr ⟨ds, _, vs, rfl, rfl, e1, r1⟩)
    · exact q.elim
  | _ => exact WpE.now g' q _ (.inl r)
theorem dv_do (he : DO X W e (fun ρ st => (f ρ st).bind fun d st => match d with | .lst ds => .ok ds st | _ => .bad)) : True := trivial
/-- a list that was just made, as a value -/
def sF (f : SL) : SE := fun ρ st => (f ρ st).bind fun ds st => .ok (.lst ds) st
theorem de_do {f : SL} (he : DO X W e f) : DE X W e (sF f) :=
  ⟨PE_of he.pe fun σ H Q ⟨w, ρ, e, gd, rl, wp⟩ => ⟨w, ρ, e, gd, rl, (WpE.bind wp).mono fun ds w' l g' q a vs m => q.now g' _ m.frozen⟩⟩
end
end Ds
set_option Elab.async false
set_option linter.all false
set_option maxRecDepth 100000
set_option maxHeartbeats 1000000
set_option autoImplicit false
/-! DsD: displays, arithmetic, comparisons, tests. -/
namespace Ds
open PySem PySem.Spec PyProof.Rows L2
section
variable {X : Cx} {W : WX} {e a b c : Expr} {es : List Expr} {f g h : SE} {fl : SL} {pos : Pos}

/-! ### argument lists, displays -/
def sNil : SL := fun _ st => .ok [] st
def sCons (f : SE) (fl : SL) : SL := fun ρ st => (f ρ st).bind fun d st1 => (fl ρ st1).bind fun ds st2 => .ok (d :: ds) st2
theorem da_nil : DA X W [] sNil := ⟨PA_of pa_nil fun σ H Q ⟨w, ρ, e, gd, rl, wp⟩ => by subst e; exact wp.now gd [] .nil⟩
theorem da_cons (he : DE X W e f) (ha : DA X W es fl) (hs : starEach (e :: es) X.env = (false, eval e X.env) :: starEach es X.env := by rfl) : DA X W (e :: es) (sCons f fl) := by
  refine ⟨PA_of (pa_cons he.pe ha.pa hs) fun σ H Q ⟨w, ρ, e, gd, rl, wp⟩ => ?_⟩
  subst e
  refine ⟨w, ρ, rfl, gd, rl, (WpE.bind wp).mono fun d w1 l1 g1 q1 v r => ⟨w1, ρ, rfl, g1, rl.leE gd l1, (WpE.bind q1).mono fun ds w2 l2 g2 q2 vs rs => ?_⟩⟩
  exact q2.now g2 _ (.cons (r.leE g1 l2) rs)
def sTup (fl : SL) : SE := fun ρ st => (fl ρ st).bind fun ds st => if ds.length ≤ sizeLine then .ok (.tup ds) st else .bad
theorem de_tup {k : Nat} (ha : DA X W es fl) : DE X W (.Tuple es k pos) (sTup fl) := by
  refine ⟨PE_of (pe_tup ha.pa) fun σ H Q ⟨w, ρ, e, gd, rl, wp⟩ => ?_⟩
  subst e
  refine ⟨w, ρ, rfl, gd, rl, (WpE.bind wp).mono fun ds w1 l1 g1 q1 vs r => ?_⟩
  split at q1
  · rename_i z
    have z' : vs.length ≤ sizeLine := by rw [r.length]; exact z
    refine ⟨z', fun p hp => ?_⟩
    obtain ⟨l2, g2, r2⟩ := new_tup g1 hp r z'
    exact q1.at' l2 g2 rfl _ r2
  · exact q1.elim
def sLst (fl : SL) : SL := fun ρ st => (fl ρ st).bind fun ds st => if ds.length ≤ sizeLine then .ok ds st else .bad
theorem do_lst (ha : DA X W es fl) : DO X W (.List es pos) (sLst fl) := by
  refine ⟨PE_of (pe_lst ha.pa) fun σ H Q ⟨w, ρ, e, gd, rl, wp⟩ => ?_⟩
  subst e
  refine ⟨w, ρ, rfl, gd, rl, (WpE.bind wp).mono fun ds w1 l1 g1 q1 vs r => ?_⟩
  split at q1
  · rename_i z
    have z' : vs.length ≤ sizeLine := by rw [r.length]; exact z
    refine ⟨z', fun p hp => ?_⟩
    obtain ⟨l2, g2, r2⟩ := new_lst g1 hp r z'
    exact q1.at' l2 g2 rfl _ vs (Made.new l1 g1 hp r z')
  · exact q1.elim

/-! ### two-place operators -/
def s2 (h : D → D → Sto → Out D) (f g : SE) : SE := fun ρ st => (f ρ st).bind fun x st1 => (g ρ st1).bind fun y st2 => h x y st2
/-- a rule on values answers as h does on data -/
def OpD (G : Gc) (W : WX) (r : R2) (h : D → D → Sto → Out D) : Prop :=
  ∀ (w : Wd) (x y : D) (u v : V) (Q : VK), Good G.K w → Rep G.K w x u → Rep G.K w y v → WpE G W w (h x y w.st) (fun d w' => ∀ z, Rep G.K w' d z → Q z w'.H) → r u v w.H Q
theorem de_op {op : Operator} {r : R2} {h : D → D → Sto → Out D} (ho : OpR X (binaryOp op) r) (hd : OpD (gc X) W r h) (ha : DE X W a f) (hb : DE X W b g) : DE X W (.BinOp a op b pos) (s2 h f g) := by
  refine ⟨PE_of (pe_op ho ha.pe hb.pe) fun σ H Q ⟨w, ρ, e, gd, rl, wp⟩ => ?_⟩
  subst e
  exact ⟨w, ρ, rfl, gd, rl, (WpE.bind wp).mono fun x w1 l1 g1 q1 u r => ⟨w1, ρ, rfl, g1, rl.leE gd l1, (WpE.bind q1).mono fun y w2 l2 g2 q2 v r2 => hd w2 x y u v Q g2 (r.leE g1 l2) r2 q2⟩⟩
theorem OpD.int {G : Gc} {C : Int → Int → Prop} {k : Int → Int → Int} {h : D → D → Sto → Out D} (hb : ∀ x y st, (∀ i j, x = .int i → y = .int j → False) → h x y st = .bad)
    (hi : ∀ i j st, (C i j ∧ h (.int i) (.int j) st = .ok (.int (k i j)) st) ∨ h (.int i) (.int j) st = .bad) : OpD G W (rI C fun i j => .int (k i j)) h := by
  intro w x y u v Q g rx ry wp
  by_cases q : ∃ i j, x = .int i ∧ y = .int j
  · obtain ⟨i, j, rfl, rfl⟩ := q
    rcases hi i j w.st with ⟨hc, e⟩ | e
    · rw [e] at wp
      exact ⟨i, j, rx.int_eq, ry.int_eq, hc, wp.now g _ rep_int⟩
    · rw [e] at wp; exact wp.elim
  · rw [hb x y w.st fun i j e1 e2 => q ⟨i, j, e1, e2⟩] at wp; exact wp.elim
def subD (x y : D) (st : Sto) : Out D := match x, y with
  | .int i, .int j => .ok (.int (i - j)) st
  | _, _ => .bad
theorem subD_ok {G : Gc} : OpD G W (rI0 fun i j => .int (i - j)) subD := by
  intro w x y u v Q g rx ry wp
  unfold subD at wp
  split at wp
  · exact ⟨_, _, rx.int_eq, ry.int_eq, wp.now g _ rep_int⟩
  · exact wp.elim
def divD (x y : D) (st : Sto) : Out D := match x, y with
  | .int i, .int j => if 0 < j ∧ j.natAbs.log2 < 9000 then .ok (.int (i / j)) st else .bad
  | _, _ => .bad
theorem divD_ok {G : Gc} : OpD G W (rI CDivW fun i j => .int (i / j)) divD := by
  intro w x y u v Q g rx ry wp
  unfold divD at wp
  split at wp
  · split at wp
    · rename_i hc
      exact ⟨_, _, rx.int_eq, ry.int_eq, hc, wp.now g _ rep_int⟩
    · exact wp.elim
  · exact wp.elim
def modD (x y : D) (st : Sto) : Out D := match x, y with
  | .int i, .int j => if 0 < j then .ok (.int (i % j)) st else .bad
  | _, _ => .bad
theorem modD_ok {G : Gc} : OpD G W (rI (fun _ j => 0 < j) fun i j => .int (i % j)) modD := by
  intro w x y u v Q g rx ry wp
  unfold modD at wp
  split at wp
  · split at wp
    · rename_i hc
      exact ⟨_, _, rx.int_eq, ry.int_eq, hc, wp.now g _ rep_int⟩
    · exact wp.elim
  · exact wp.elim
def powD (x y : D) (st : Sto) : Out D := match x, y with
  | .int i, .int j => if 0 ≤ j ∧ j ≤ 1000000 ∧ i.natAbs < 2 ^ 64 then .ok (.int (i ^ j.toNat)) st else .bad
  | _, _ => .bad
theorem powD_ok {G : Gc} : OpD G W (rI CPow fun i j => .int (i ^ j.toNat)) powD := by
  intro w x y u v Q g rx ry wp
  unfold powD at wp
  split at wp
  · split at wp
    · rename_i hc
      exact ⟨_, _, rx.int_eq, ry.int_eq, hc, wp.now g _ rep_int⟩
    · exact wp.elim
  · exact wp.elim
def addD (x y : D) (st : Sto) : Out D := match x, y with
  | .int i, .int j => .ok (.int (i + j)) st
  | .str i, .str j => if i.length + j.length ≤ sizeLine then .ok (.str (i ++ j)) st else .bad
  | .tup xs, .tup ys => if xs.length + ys.length ≤ sizeLine then .ok (.tup (xs ++ ys)) st else .bad
  | .lst xs, .lst ys => if xs.length + ys.length ≤ sizeLine then .ok (.lst (xs ++ ys)) st else .bad
  | _, _ => .bad
def rAdd4 (K : PySem.W.Frag) : R2 := fun x y H Q => (rI0 fun i j => .int (i + j)) x y H Q ∨ (∃ i j, x = .str i ∧ y = .str j ∧ i.length + j.length ≤ sizeLine ∧ Q (.str (i ++ j)) H) ∨ rCatA K x y H Q ∨ rCat x y H Q
theorem op_add4 : OpR X (binaryOp .Add) (rAdd4 X.K) := op_add.or (op_add_str.or (op_catA.or op_cat))
theorem RepL.nil_of {K : PySem.W.Frag} {w : Wd} {ds : List D} {vs : List V} (r : RepL K w ds vs) : vs = [] ↔ ds = [] := by
  have e := r.length
  constructor
  · intro z; subst z; exact List.length_eq_zero_iff.mp e.symm
  · intro z; subst z; exact List.length_eq_zero_iff.mp e
theorem rep_tup {K : PySem.W.Frag} {w : Wd} {ds : List D} {a : Addr} {vs : List V} (t : TupAt K w.H a vs) (r : RepL K w ds vs) : Rep K w (.tup ds) (.ref a) := by unfold Rep; exact ⟨a, vs, rfl, t, r⟩
theorem addD_ok {G : Gc} : OpD G W (rAdd4 G.K) addD := by
  intro w x y u v Q g rx ry wp
  unfold addD at wp
  split at wp
  · exact .inl ⟨_, _, rx.int_eq, ry.int_eq, wp.now g _ rep_int⟩
  · split at wp
    · rename_i z
      exact .inr (.inl ⟨_, _, rx.str_eq, ry.str_eq, z, wp.now g _ rep_str⟩)
    · exact wp.elim
  · split at wp
    · rename_i xs ys z
      obtain ⟨a, vs, rfl, ta, ra⟩ := rx.tup_eq
      obtain ⟨b, us, rfl, tb, rb⟩ := ry.tup_eq
      have z' : vs.length + us.length ≤ sizeLine := by rw [ra.length, rb.length]; exact z
      refine .inr (.inr (.inl ⟨a, b, vs, us, rfl, rfl, ta.sq, tb.sq, z', fun e => ?_, fun _ e => ?_, fun _ _ p hp => ?_⟩))
      · have e2 := ra.nil_of.mp e
        subst e2
        exact wp.now g _ (rep_tup tb (by simpa using rb))
      · have e2 := rb.nil_of.mp e
        subst e2
        exact wp.now g _ (rep_tup ta (by simpa using ra))
      · obtain ⟨l2, g2, r2⟩ := new_tup g hp (ra.append rb) (by rw [List.length_append]; exact z')
        exact wp.at' l2 g2 rfl _ r2
    · exact wp.elim
  · split at wp
    · rename_i xs ys z
      obtain ⟨a, vs, rfl, ta, ra⟩ := rx.lst_eq
      obtain ⟨b, us, rfl, tb, rb⟩ := ry.lst_eq
      have z' : vs.length + us.length ≤ sizeLine := by rw [ra.length, rb.length]; exact z
      refine .inr (.inr (.inr ⟨a, b, vs, us, rfl, rfl, ta, tb, z', fun p hp => ?_⟩))
      obtain ⟨l2, g2, r2⟩ := new_lst g hp (ra.append rb) (by rw [List.length_append]; exact z')
      exact wp.at' l2 g2 rfl _ r2
    · exact wp.elim
  · exact wp.elim
def mulD (x y : D) (st : Sto) : Out D := match x, y with
  | .int i, .int j => if i.natAbs.log2 + j.natAbs.log2 < 1000000 then .ok (.int (i * j)) st else .bad
  | .lst xs, .int k => if -(2 ^ 63) ≤ k ∧ k < 2 ^ 63 ∧ xs.length * k.toNat ≤ sizeLine then .ok (.lst (List.replicate k.toNat xs).flatten) st else .bad
  | _, _ => .bad
def rMul2 : R2 := fun x y H Q => rI CMulW (fun i j => .int (i * j)) x y H Q ∨ rRep x y H Q
theorem op_mul2 : OpR X (binaryOp .Mult) rMul2 := op_mulW.or op_rep
theorem RepL.rep {K : PySem.W.Frag} {w : Wd} {ds : List D} {vs : List V} (r : RepL K w ds vs) : ∀ k : Nat, RepL K w (List.replicate k ds).flatten (List.replicate k vs).flatten
  | 0 => by simp; exact .nil
  | k + 1 => by rw [List.replicate_succ, List.replicate_succ, List.flatten_cons, List.flatten_cons]; exact r.append (RepL.rep r k)
theorem mulD_ok {G : Gc} : OpD G W rMul2 mulD := by
  intro w x y u v Q g rx ry wp
  unfold mulD at wp
  split at wp
  · split at wp
    · rename_i hc
      exact .inl ⟨_, _, rx.int_eq, ry.int_eq, hc, wp.now g _ rep_int⟩
    · exact wp.elim
  · split at wp
    · rename_i xs k z
      obtain ⟨z1, z2, z3⟩ := z
      obtain ⟨a, vs, rfl, ta, ra⟩ := rx.lst_eq
      have hl : ((List.replicate k.toNat vs).flatten).length ≤ sizeLine := by
        rw [(ra.rep k.toNat).length]
        rw [List.length_flatten, List.map_replicate, List.sum_replicate_nat, Nat.mul_comm]
        exact z3
      refine .inr ⟨a, k, vs, rfl, ry.int_eq, ta, z1, z2, by rw [ra.length]; exact z3, fun p hp => ?_⟩
      obtain ⟨l2, g2, r2⟩ := new_lst g hp (ra.rep k.toNat) hl
      exact wp.at' l2 g2 rfl _ r2
    · exact wp.elim
  · exact wp.elim
theorem de_add (ha : DE X W a f) (hb : DE X W b g) : DE X W (.BinOp a .Add b pos) (s2 addD f g) := de_op op_add4 addD_ok ha hb
theorem de_sub (ha : DE X W a f) (hb : DE X W b g) : DE X W (.BinOp a .Sub b pos) (s2 subD f g) := de_op op_sub subD_ok ha hb
theorem de_mul (ha : DE X W a f) (hb : DE X W b g) : DE X W (.BinOp a .Mult b pos) (s2 mulD f g) := de_op op_mul2 mulD_ok ha hb
theorem de_div (ha : DE X W a f) (hb : DE X W b g) : DE X W (.BinOp a .FloorDiv b pos) (s2 divD f g) := de_op op_fdivW divD_ok ha hb
theorem de_mod (ha : DE X W a f) (hb : DE X W b g) : DE X W (.BinOp a .Mod b pos) (s2 modD f g) := de_op op_mod modD_ok ha hb
theorem de_pow (ha : DE X W a f) (hb : DE X W b g) : DE X W (.BinOp a .Pow b pos) (s2 powD f g) := de_op op_pow powD_ok ha hb
def negD (x : D) (st : Sto) : Out D := match x with
  | .int i => .ok (.int (-i)) st
  | _ => .bad
def s1 (h : D → Sto → Out D) (f : SE) : SE := fun ρ st => (f ρ st).bind h
theorem de_neg (ha : DE X W a f) : DE X W (.UnaryOp .USub a pos) (s1 negD f) := by
  refine ⟨PE_of (pe_un un_neg ha.pe) fun σ H Q ⟨w, ρ, e, gd, rl, wp⟩ => ?_⟩
  subst e
  refine ⟨w, ρ, rfl, gd, rl, (WpE.bind wp).mono fun x w1 l1 g1 q1 u r => ?_⟩
  unfold negD at q1
  split at q1
  · exact ⟨_, r.int_eq, q1.now g1 _ rep_int⟩
  · exact q1.elim
end
end Ds
set_option Elab.async false
set_option linter.all false
set_option maxRecDepth 100000
set_option maxHeartbeats 1000000
set_option autoImplicit false
/-! DsE: comparisons, tests, and/or/not, a if t else b. -/
namespace Ds
open PySem PySem.Spec PyProof.Rows L2
section
variable {X : Cx} {W : WX} {e a b c : Expr} {es : List Expr} {f g h : SE} {pos : Pos}

/-! ### what a comparison's left side may be: a value, or a list of one's own -/
def Vs (K : PySem.W.Frag) (w : Wd) (d : D) (v : V) : Prop := Rep K w d v ∨ ∃ ds a vs, d = .lst ds ∧ v = .ref a ∧ w.O a ∧ w.H a = some (.lst vs) ∧ RepL K w ds vs
def tU (G : Gc) (W : WX) (f : SE) : TE := fun σ H Q => ∃ (w : Wd) (ρ : En), w.H = H ∧ Good G.K w ∧ RelEn G w ρ σ ∧ WpE G W w (f ρ w.st) fun d w' => ∀ v, Vs G.K w' d v → Q v w'.H
structure DU (X : Cx) (W : WX) (e : Expr) (f : SE) : Prop where pe : PE X e (tU (gc X) W f)
theorem Vs.vw {K : PySem.W.Frag} {w : Wd} {d : D} {v : V} (h : Vs K w d v) : Vw K w d v := by
  rcases h with h | ⟨ds, a, vs, e1, e2, _, e3, r⟩
  · exact .inl h
  · exact .inr ⟨ds, a, vs, e1, e2, e3, r⟩
theorem Vs.leE {K : PySem.W.Frag} {w w' : Wd} {d : D} {v : V} (g : Good K w) (l : LeE w w') (h : Vs K w d v) : Vs K w' d v := by
  rcases h with h | ⟨ds, a, vs, e1, e2, o, e3, r⟩
  · exact .inl (h.leE g l)
  · exact .inr ⟨ds, a, vs, e1, e2, l.own a o, (l.keep a _ e3 fun z => (g.mo a z).1 o).1, r.leE g l⟩
theorem du_of (he : DE X W e f) : DU X W e f := ⟨PE_of he.pe fun σ H Q ⟨w, ρ, e, gd, rl, wp⟩ => ⟨w, ρ, e, gd, rl, wp.mono fun d w' l g' q v r => q v (.inl r)⟩⟩
theorem du_own {i : Nat} {x : Str} (hN : X.N[i]? = some x := by rfl) (hv : Vis X.env.scope x := by first | exact Or.inl rfl | exact Or.inr (Or.inl rfl) | exact Or.inr (Or.inr rfl)) (hd : (x == ("__debug__" : Str)) = false := by decide)
    (hcd : (x == ("__classdict__" : Str)) = false := by decide) : DU X W (.Name x pos) (sOwn i) := by
  refine ⟨PE_of (pe_var hN hv hd hcd) fun σ H Q ⟨w, ρ, e, gd, rl, wp⟩ => ?_⟩
  subst e
  unfold sOwn at wp
  split at wp
  · rename_i d hd
    obtain ⟨a, vs, e1, o, e2, r⟩ := rl.own i d hd
    exact ⟨_, e1, wp.now gd _ (.inr ⟨d, a, vs, rfl, rfl, o, e2, r⟩)⟩
  · exact wp.elim

/-! ### comparisons -/
abbrev HC := D → D → Sto → Out Bool
/-- a comparison's rule answers as h does -/
def OpC (G : Gc) (W : WX) (r : R2) (h : HC) : Prop :=
  ∀ (w : Wd) (x y : D) (u v : V) (Q : VK), Good G.K w → Vs G.K w x u → Vw G.K w y v → WpE G W w (h x y w.st) (fun b w' => Q (.bl b) w'.H) → r u v w.H Q
def sB (k : SB) : SE := fun ρ st => (k ρ st).bind fun b st => .ok (.bl b) st
def c2 (h : HC) (f g : SE) : SB := fun ρ st => (f ρ st).bind fun x st1 => (g ρ st1).bind fun y st2 => h x y st2
theorem de_cmp {op : CmpOp} {r : R2} {h : HC} (ho : OpR X (compareOp op) r) (hd : OpC (gc X) W r h) (ha : DU X W a f) (hb : DV X W b g) (hm : behindInMarks op b = false) : DE X W (.Compare a [op] [b] pos) (sB (c2 h f g)) := by
  refine ⟨PE_of (pe_cmpR ho ha.pe hb.pe hm) fun σ H Q ⟨w, ρ, e, gd, rl, wp⟩ => ?_⟩
  subst e
  have wp' := WpE.bind wp
  refine ⟨w, ρ, rfl, gd, rl, (WpE.bind wp').mono fun x w1 l1 g1 q1 u r => ⟨w1, ρ, rfl, g1, rl.leE gd l1, (WpE.bind q1).mono fun y w2 l2 g2 q2 v r2 => hd w2 x y u v Q g2 (r.leE g1 l2) r2 (q2.mono fun z w3 l3 g3 q3 => q3.now g3 _ rep_bl)⟩⟩
theorem dt_cmp {op : CmpOp} {r : R2} {h : HC} (ho : OpR X (compareOp op) r) (hd : OpC (gc X) W r h) (ha : DU X W a f) (hb : DV X W b g) (hm : behindInMarks op b = false) : DT X W (.Compare a [op] [b] pos) (c2 h f g) := by
  refine ⟨PT_of (pt_cmpR ho ha.pe hb.pe hm) fun σ H Q ⟨w, ρ, e, gd, rl, wp⟩ => ?_⟩
  subst e
  exact ⟨w, ρ, rfl, gd, rl, (WpE.bind wp).mono fun x w1 l1 g1 q1 u r => ⟨w1, ρ, rfl, g1, rl.leE gd l1, (WpE.bind q1).mono fun y w2 l2 g2 q2 v r2 => hd w2 x y u v _ g2 (r.leE g1 l2) r2 (q2.mono fun z w3 l3 g3 q3 => ⟨z, rfl, q3⟩)⟩⟩
/-- == of plain data -/
def eqD : HC := fun x y st => if x.py.plain = true ∧ y.py.plain = true ∧ min x.py.depth y.py.depth ≤ 100 then .ok (PyData.eqv x.py y.py) st else .bad
def neD : HC := fun x y st => if x.py.plain = true ∧ y.py.plain = true ∧ min x.py.depth y.py.depth ≤ 100 then .ok (!PyData.eqv x.py y.py) st else .bad
def rEqP (K : PySem.W.Frag) (k : Bool → Bool) : R2 := fun x y H Q => ∃ d e, Dp K H x d ∧ Dp K H y e ∧ d.plain = true ∧ e.plain = true ∧ min d.depth e.depth ≤ 100 ∧ Q (.bl (k (PyData.eqv d e))) H
theorem op_eqP (hu : X.A.units + 200 < cLine) : OpR X (compareOp .Eq) (rEqP X.K id) := by
  intro pins s σ H x y v u Q I rx ry h
  obtain ⟨d, e, hd, he, sd, se, hz, q⟩ := h
  obtain ⟨as, r1⟩ := Dp.reads I d x v hd rx
  obtain ⟨bs, r2⟩ := Dp.reads I e y u he ry
  exact SeqAt.eq_plain r1 r2 sd se (by omega) ⟨.bl _, H, I, rfl, q⟩
theorem op_neP (hu : X.A.units + 200 < cLine) : OpR X (compareOp .NotEq) (rEqP X.K not) := by
  intro pins s σ H x y v u Q I rx ry h
  obtain ⟨d, e, hd, he, sd, se, hz, q⟩ := h
  obtain ⟨as, r1⟩ := Dp.reads I d x v hd rx
  obtain ⟨bs, r2⟩ := Dp.reads I e y u he ry
  exact SeqAt.ne_plain r1 r2 sd se (by omega) ⟨.bl _, H, I, rfl, q⟩
theorem eqD_ok {G : Gc} : OpC G W (rEqP G.K id) eqD := by
  intro w x y u v Q g rx ry wp
  unfold eqD at wp
  split at wp
  · rename_i z
    obtain ⟨z1, z2, z3⟩ := z
    exact ⟨x.py, y.py, rx.vw.dp z1, ry.dp z2, z1, z2, z3, WpE.now g wp⟩
  · exact wp.elim
theorem neD_ok {G : Gc} : OpC G W (rEqP G.K not) neD := by
  intro w x y u v Q g rx ry wp
  unfold neD at wp
  split at wp
  · rename_i z
    obtain ⟨z1, z2, z3⟩ := z
    exact ⟨x.py, y.py, rx.vw.dp z1, ry.dp z2, z1, z2, z3, WpE.now g wp⟩
  · exact wp.elim
/-- in, of plain data in a list or a tuple; of one sign in a text -/
def itemsD : D → Option (List D)
  | .tup xs => some xs
  | .lst xs => some xs
  | .fz xs => some xs
  | _ => none
def inB (k : Bool → Bool) : HC := fun x y st => match x, y with
  | .str s, .str z => (match s.cps.toList with
    | [c] => .ok (k (decide (c ∈ z.cps.toList))) st
    | _ => .bad)
  | x, .tup ys => if x.py.plain = true ∧ PyData.plainAll (D.pys ys) = true ∧ min (PyData.depthAll (D.pys ys)) x.py.depth ≤ 100 then .ok (k ((D.pys ys).any fun y => PyData.eqv y x.py)) st else .bad
  | x, .lst ys => if x.py.plain = true ∧ PyData.plainAll (D.pys ys) = true ∧ min (PyData.depthAll (D.pys ys)) x.py.depth ≤ 100 then .ok (k ((D.pys ys).any fun y => PyData.eqv y x.py)) st else .bad
  | _, _ => .bad
def rInP (K : PySem.W.Frag) (k : Bool → Bool) : R2 := fun x y H Q => (∃ (c : Nat) (z : Str), x = .str ⟨#[c]⟩ ∧ y = .str z ∧ Q (.bl (k (decide (c ∈ z.cps.toList)))) H) ∨
  (∃ d es, Dp K H x d ∧ Dp K H y (.list es) ∧ d.plain = true ∧ PyData.plainAll es = true ∧ min (PyData.depthAll es) d.depth ≤ 100 ∧ Q (.bl (k (es.any fun y => PyData.eqv y d))) H) ∨
  (∃ d es, Dp K H x d ∧ Dp K H y (.tuple es) ∧ d.plain = true ∧ PyData.plainAll es = true ∧ min (PyData.depthAll es) d.depth ≤ 100 ∧ Q (.bl (k (es.any fun y => PyData.eqv y d))) H)
theorem op_inP (hu : X.A.units + 200 < cLine) : OpR X (compareOp .In) (rInP X.K id) := by
  intro pins s σ H x y v u Q I rx ry h
  rcases h with ⟨c, z, rfl, rfl, q⟩ | ⟨d, e, hd, he, sd, se, hz, q⟩ | ⟨d, e, hd, he, sd, se, hz, q⟩
  · exact op_in_sign pins s σ H _ _ v u Q I rx ry ⟨c, z, rfl, rfl, q⟩
  · obtain ⟨as, r1⟩ := Dp.reads I d x v hd rx
    obtain ⟨bs, r2⟩ := Dp.reads I _ y u he ry
    exact SeqAt.in_list_data r2 r1 se sd (by omega) ⟨.bl _, H, I, rfl, q⟩
  · obtain ⟨as, r1⟩ := Dp.reads I d x v hd rx
    obtain ⟨bs, r2⟩ := Dp.reads I _ y u he ry
    exact SeqAt.in_tuple_data r2 r1 se sd (by omega) ⟨.bl _, H, I, rfl, q⟩
theorem op_notInP (hu : X.A.units + 200 < cLine) : OpR X (compareOp .NotIn) (rInP X.K not) := by
  intro pins s σ H x y v u Q I rx ry h
  rcases h with ⟨c, z, rfl, rfl, q⟩ | ⟨d, e, hd, he, sd, se, hz, q⟩ | ⟨d, e, hd, he, sd, se, hz, q⟩
  · exact op_notIn_sign pins s σ H _ _ v u Q I rx ry ⟨c, z, rfl, rfl, q⟩
  · obtain ⟨as, r1⟩ := Dp.reads I d x v hd rx
    obtain ⟨bs, r2⟩ := Dp.reads I _ y u he ry
    exact SeqAt.notIn_list_data r2 r1 se sd (by omega) ⟨.bl _, H, I, rfl, q⟩
  · obtain ⟨as, r1⟩ := Dp.reads I d x v hd rx
    obtain ⟨bs, r2⟩ := Dp.reads I _ y u he ry
    exact SeqAt.notIn_tuple_data r2 r1 se sd (by omega) ⟨.bl _, H, I, rfl, q⟩
theorem inB_ok {G : Gc} {k : Bool → Bool} : OpC G W (rInP G.K k) (inB k) := by
  intro w x y u v Q g rx ry wp
  unfold inB at wp
  split at wp
  · rename_i s z
    split at wp
    · rename_i c hc
      have e1 := (rx.vw.rep fun _ z => nomatch z).str_eq
      have e2 := (ry.rep fun _ z => nomatch z).str_eq
      have e3 : s = ⟨#[c]⟩ := by
        obtain ⟨cs⟩ := s
        obtain ⟨l⟩ := cs
        have hc' : l = [c] := hc
        rw [hc']
      refine .inl ⟨c, z, by rw [e1, e3], e2, WpE.now g wp⟩
    · exact wp.elim
  · rename_i ys
    split at wp
    · rename_i z
      obtain ⟨z1, z2, z3⟩ := z
      exact .inr (.inr ⟨_, D.pys ys, rx.vw.dp z1, ry.dp (d := .tup ys) z2, z1, z2, z3, WpE.now g wp⟩)
    · exact wp.elim
  · rename_i ys
    split at wp
    · rename_i z
      obtain ⟨z1, z2, z3⟩ := z
      exact .inr (.inl ⟨_, D.pys ys, rx.vw.dp z1, ry.dp (d := .lst ys) z2, z1, z2, z3, WpE.now g wp⟩)
    · exact wp.elim
  · exact wp.elim
def D.isNon : D → Bool
  | .non => true
  | _ => false
/-- <, >, <=, >= -/
def ordD (n : Bool) (sw : Bool) : HC := fun x y st => match x, y with
  | .int i, .int j => .ok (n != decide (if sw then j < i else i < j)) st
  | x, y => if x.py.plain = true ∧ y.py.plain = true ∧ PySem.W.alike x.py y.py = true ∧ D.isNon x = false ∧ min x.py.depth y.py.depth ≤ 100 then .ok (n != (if sw then PySem.W.dataLt y.py x.py else PySem.W.dataLt x.py y.py)) st else .bad
def rOrd (K : PySem.W.Frag) (n sw : Bool) : R2 := fun x y H Q => (∃ i j, x = .int i ∧ y = .int j ∧ Q (.bl (n != decide (if sw then j < i else i < j))) H) ∨
  ∃ d e, Dp K H x d ∧ Dp K H y e ∧ PySem.W.alike d e = true ∧ d ≠ .none ∧ min d.depth e.depth ≤ 100 ∧ Q (.bl (n != (if sw then PySem.W.dataLt e d else PySem.W.dataLt d e))) H
theorem op_ltP (hu : X.A.units + 200 < cLine) : OpR X (compareOp .Lt) (rOrd X.K false false) := by
  intro pins s σ H x y v u Q I rx ry h
  rcases h with ⟨i, j, rfl, rfl, q⟩ | ⟨d, e, hd, he, al, nn, hz, q⟩
  · exact op_lt pins s σ H _ _ v u Q I rx ry ⟨i, j, rfl, rfl, by simpa using q⟩
  · obtain ⟨as, r1⟩ := Dp.reads I d x v hd rx
    obtain ⟨bs, r2⟩ := Dp.reads I _ y u he ry
    exact PySem.W.lt_data r1 r2 al nn (by omega) ⟨.bl _, H, I, rfl, by simpa using q⟩
theorem op_gtP (hu : X.A.units + 200 < cLine) : OpR X (compareOp .Gt) (rOrd X.K false true) := by
  intro pins s σ H x y v u Q I rx ry h
  rcases h with ⟨i, j, rfl, rfl, q⟩ | ⟨d, e, hd, he, al, nn, hz, q⟩
  · exact op_gt pins s σ H _ _ v u Q I rx ry ⟨i, j, rfl, rfl, by simpa using q⟩
  · obtain ⟨as, r1⟩ := Dp.reads I d x v hd rx
    obtain ⟨bs, r2⟩ := Dp.reads I _ y u he ry
    exact PySem.W.gt_data r1 r2 al nn (by omega) ⟨.bl _, H, I, rfl, by simpa using q⟩
theorem op_leP (hu : X.A.units + 200 < cLine) : OpR X (compareOp .LtE) (rOrd X.K true true) := by
  intro pins s σ H x y v u Q I rx ry h
  rcases h with ⟨i, j, rfl, rfl, q⟩ | ⟨d, e, hd, he, al, nn, hz, q⟩
  · refine op_le pins s σ H _ _ v u Q I rx ry ⟨i, j, rfl, rfl, ?_⟩
    have z : (true != decide (j < i)) = decide (i ≤ j) := by
      by_cases c : j < i
      · rw [decide_eq_true c, decide_eq_false (by omega)]; rfl
      · rw [decide_eq_false c, decide_eq_true (by omega)]; rfl
    show Q (.bl (decide (_ ≤ _))) H
    rw [← z]; simpa using q
  · obtain ⟨as, r1⟩ := Dp.reads I d x v hd rx
    obtain ⟨bs, r2⟩ := Dp.reads I _ y u he ry
    exact PySem.W.le_data r1 r2 al nn (by omega) ⟨.bl _, H, I, rfl, by simpa using q⟩
theorem op_geP (hu : X.A.units + 200 < cLine) : OpR X (compareOp .GtE) (rOrd X.K true false) := by
  intro pins s σ H x y v u Q I rx ry h
  rcases h with ⟨i, j, rfl, rfl, q⟩ | ⟨d, e, hd, he, al, nn, hz, q⟩
  · refine op_ge pins s σ H _ _ v u Q I rx ry ⟨i, j, rfl, rfl, ?_⟩
    have z : (true != decide (i < j)) = decide (j ≤ i) := by
      by_cases c : i < j
      · rw [decide_eq_true c, decide_eq_false (by omega)]; rfl
      · rw [decide_eq_false c, decide_eq_true (by omega)]; rfl
    show Q (.bl (decide (_ ≤ _))) H
    rw [← z]; simpa using q
  · obtain ⟨as, r1⟩ := Dp.reads I d x v hd rx
    obtain ⟨bs, r2⟩ := Dp.reads I _ y u he ry
    exact PySem.W.ge_data r1 r2 al nn (by omega) ⟨.bl _, H, I, rfl, by simpa using q⟩
theorem ordD_ok {G : Gc} {n sw : Bool} : OpC G W (rOrd G.K n sw) (ordD n sw) := by
  intro w x y u v Q g rx ry wp
  unfold ordD at wp
  split at wp
  · exact .inl ⟨_, _, (rx.vw.rep fun _ z => nomatch z).int_eq, (ry.rep fun _ z => nomatch z).int_eq, WpE.now g wp⟩
  · split at wp
    · rename_i z
      obtain ⟨z1, z2, z3, z4, z5⟩ := z
      refine .inr ⟨_, _, rx.vw.dp z1, ry.dp z2, z3, fun q => ?_, z5, WpE.now g wp⟩
      cases x with
      | non => cases z4
      | _ => unfold D.py at q; cases q
    · exact wp.elim
/-- is None, is not None -/
def isNB (k : Bool → Bool) : HC := fun x y st => match x, y with
  | .non, .non => .ok (k true) st
  | _, .non => .ok (k false) st
  | _, _ => .bad
theorem isN_ok {G : Gc} : OpC G W (fun x y H Q => y = .non ∧ Q (.bl (decide (x = .non))) H) (isNB id) := by
  intro w x y u v Q g rx ry wp
  cases y with
  | non =>
    refine ⟨(ry.rep fun _ z => nomatch z).non_eq, ?_⟩
    cases x with
    | non =>
      have e := (rx.vw.rep fun _ z => nomatch z).non_eq
      subst e
      exact WpE.now g wp
    | lst ds =>
      obtain ⟨a, vs, e, _⟩ := rx.vw.lst_eq
      subst e
      exact WpE.now g wp
    | _ =>
      have e := rx.vw.rep fun _ z => nomatch z
      unfold Rep at e
      first
        | (subst e; exact WpE.now g wp)
        | (obtain ⟨_, _, e, _⟩ := e; subst e; exact WpE.now g wp)
        | (obtain ⟨_, _, _, e, _⟩ := e; subst e; exact WpE.now g wp)
        | (obtain ⟨_, e⟩ := e; subst e; exact WpE.now g wp)
  | _ => exact (show False from by unfold isNB at wp; cases x <;> exact wp.elim).elim
theorem notN_ok {G : Gc} : OpC G W (fun x y H Q => y = .non ∧ Q (.bl (!decide (x = .non))) H) (isNB not) := by
  intro w x y u v Q g rx ry wp
  cases y with
  | non =>
    refine ⟨(ry.rep fun _ z => nomatch z).non_eq, ?_⟩
    cases x with
    | non =>
      have e := (rx.vw.rep fun _ z => nomatch z).non_eq
      subst e
      exact WpE.now g wp
    | lst ds =>
      obtain ⟨a, vs, e, _⟩ := rx.vw.lst_eq
      subst e
      exact WpE.now g wp
    | _ =>
      have e := rx.vw.rep fun _ z => nomatch z
      unfold Rep at e
      first
        | (subst e; exact WpE.now g wp)
        | (obtain ⟨_, _, e, _⟩ := e; subst e; exact WpE.now g wp)
        | (obtain ⟨_, _, _, e, _⟩ := e; subst e; exact WpE.now g wp)
        | (obtain ⟨_, e⟩ := e; subst e; exact WpE.now g wp)
  | _ => exact (show False from by unfold isNB at wp; cases x <;> exact wp.elim).elim

/-! ### a chain of two -/
def c3 (h h' : HC) (f g k : SE) : SB := fun ρ st => (f ρ st).bind fun x st1 => (g ρ st1).bind fun y st2 => (h x y st2).bind fun b st3 => if b = true then (k ρ st3).bind fun z st4 => h' y z st4 else .ok false st3
theorem Vs.of {K : PySem.W.Frag} {w : Wd} {d : D} {v : V} (h : Rep K w d v) : Vs K w d v := .inl h
theorem de_chain {op op' : CmpOp} {r r' : R2} {h h' : HC} {k : SE} (ho : OpR X (compareOp op) r) (ho' : OpR X (compareOp op') r') (hd : OpC (gc X) W r h) (hd' : OpC (gc X) W r' h') (ha : DU X W a f) (hb : DE X W b g) (hc : DV X W c k)
    (hm : lastMarks [op, op'] [b, c] = false := by with_unfolding_all rfl) : DE X W (.Compare a [op, op'] [b, c] pos) (sB (c3 h h' f g k)) := by
  refine ⟨PE_of (pe_chain ho ho' ha.pe hb.pe hc.pe hm) fun σ H Q ⟨w, ρ, e, gd, rl, wp⟩ => ?_⟩
  subst e
  have wp' := WpE.bind wp
  refine ⟨w, ρ, rfl, gd, rl, (WpE.bind wp').mono fun x w1 l1 g1 q1 u r => ⟨w1, ρ, rfl, g1, rl.leE gd l1, (WpE.bind q1).mono fun y w2 l2 g2 q2 v r2 => hd w2 x y u v _ g2 (r.leE g1 l2) (.inl r2) ((WpE.bind q2).mono fun z w3 l3 g3 q3 => ⟨z, rfl, ?_⟩)⟩⟩
  cases z with
  | true =>
    refine iteT ⟨w3, ρ, rfl, g3, (rl.leE gd (l1.trans (l2.trans l3))), ?_⟩
    exact (WpE.bind q3).mono fun z w4 l4 g4 q4 u4 r4 => hd' w4 y z v u4 Q g4 (.inl (r2.leE g2 (l3.trans l4))) r4 (q4.mono fun z5 w5 l5 g5 q5 => q5.now g5 _ rep_bl)
  | false => exact iteF ((show WpE _ _ w3 (.ok false w3.st) _ from q3).now g3 |>.now g3 _ rep_bl)
theorem dt_chain {op op' : CmpOp} {r r' : R2} {h h' : HC} {k : SE} (ho : OpR X (compareOp op) r) (ho' : OpR X (compareOp op') r') (hd : OpC (gc X) W r h) (hd' : OpC (gc X) W r' h') (ha : DU X W a f) (hb : DE X W b g) (hc : DV X W c k)
    (hm : lastMarks [op, op'] [b, c] = false := by with_unfolding_all rfl) : DT X W (.Compare a [op, op'] [b, c] pos) (c3 h h' f g k) := by
  refine ⟨PT_of (pt_chain ho ho' ha.pe hb.pe hc.pe hm) fun σ H Q ⟨w, ρ, e, gd, rl, wp⟩ => ?_⟩
  subst e
  refine ⟨w, ρ, rfl, gd, rl, (WpE.bind wp).mono fun x w1 l1 g1 q1 u r => ⟨w1, ρ, rfl, g1, rl.leE gd l1, (WpE.bind q1).mono fun y w2 l2 g2 q2 v r2 => hd w2 x y u v _ g2 (r.leE g1 l2) (.inl r2) ((WpE.bind q2).mono fun z w3 l3 g3 q3 => ⟨z, rfl, ?_⟩)⟩⟩
  cases z with
  | true =>
    refine iteT ⟨w3, ρ, rfl, g3, (rl.leE gd (l1.trans (l2.trans l3))), ?_⟩
    exact (WpE.bind q3).mono fun z w4 l4 g4 q4 u4 r4 => hd' w4 y z v u4 _ g4 (.inl (r2.leE g2 (l3.trans l4))) r4 (q4.mono fun z5 w5 l5 g5 q5 => ⟨z5, rfl, q5⟩)
  | false => exact iteF ⟨false, rfl, (show WpE _ _ w3 (.ok false w3.st) _ from q3).now g3⟩

/-! ### tests -/
/-- an expression that gives True or False, as a test -/
def boolD (d : D) (st : Sto) : Out Bool := match d with
  | .bl b => .ok b st
  | _ => .bad
def sTst (f : SE) : SB := fun ρ st => (f ρ st).bind boolD
theorem dt_val (ha : DE X W a f) (he : ∀ whole, isTrue a X.env whole = (do let v ← whole; standAt a.pos; holding [v] (truthy v)) := by intro _; rfl) : DT X W a (sTst f) := by
  refine ⟨PT_of (pt_val ha.pe he) fun σ H Q ⟨w, ρ, e, gd, rl, wp⟩ => ?_⟩
  subst e
  refine ⟨w, ρ, rfl, gd, rl, (WpE.bind wp).mono fun x w1 l1 g1 q1 u r => ?_⟩
  unfold boolD at q1
  split at q1
  · exact ⟨_, r.bl_eq, WpE.now g1 q1⟩
  · exact q1.elim
def bNot (k : SB) : SB := fun ρ st => (k ρ st).bind fun b st => .ok (!b) st
def bAnd (k l : SB) : SB := fun ρ st => (k ρ st).bind fun b st => if b = true then l ρ st else .ok false st
def bOr (k l : SB) : SB := fun ρ st => (k ρ st).bind fun b st => if b = true then .ok true st else l ρ st
variable {k l : SB} {rest : List Expr}
theorem dt_not (ha : DT X W a k) : DT X W (.UnaryOp .Not a pos) (bNot k) := by
  refine ⟨PT_of (pt_not ha.pt) fun σ H Q ⟨w, ρ, e, gd, rl, wp⟩ => ?_⟩
  subst e
  exact ⟨w, ρ, rfl, gd, rl, (WpE.bind wp).mono fun x w1 l1 g1 q1 => WpE.now g1 q1⟩
theorem dw_and1 (ha : DT X W a k) : DW X W (.BoolOp .And [a] pos) k := ⟨pw_and1 ha.pt⟩
theorem dw_or1 (ha : DT X W a k) : DW X W (.BoolOp .Or [a] pos) k := ⟨pw_or1 ha.pt⟩
theorem dw_and (ha : DT X W a k) (hb : DW X W (.BoolOp .And (b :: rest) pos) l) : DW X W (.BoolOp .And (a :: b :: rest) pos) (bAnd k l) := by
  refine ⟨PW_of (pw_and ha.pt hb.pw) fun σ H Q ⟨w, ρ, e, gd, rl, wp⟩ => ?_⟩
  subst e
  refine ⟨w, ρ, rfl, gd, rl, (WpE.bind wp).mono fun x w1 l1 g1 q1 => ?_⟩
  cases x with
  | true => exact iteT ⟨w1, ρ, rfl, g1, rl.leE gd l1, q1⟩
  | false => exact iteF (WpE.now (a := false) g1 q1)
theorem dw_or (ha : DT X W a k) (hb : DW X W (.BoolOp .Or (b :: rest) pos) l) : DW X W (.BoolOp .Or (a :: b :: rest) pos) (bOr k l) := by
  refine ⟨PW_of (pw_or ha.pt hb.pw) fun σ H Q ⟨w, ρ, e, gd, rl, wp⟩ => ?_⟩
  subst e
  refine ⟨w, ρ, rfl, gd, rl, (WpE.bind wp).mono fun x w1 l1 g1 q1 => ?_⟩
  cases x with
  | true => exact iteT (WpE.now (a := true) g1 q1)
  | false => exact iteF ⟨w1, ρ, rfl, g1, rl.leE gd l1, q1⟩
/-- .. as values -/
def vNot (f : SE) : SE := fun ρ st => (f ρ st).bind fun d st => (boolD d st).bind fun b st => .ok (.bl (!b)) st
def vAnd (f g : SE) : SE := fun ρ st => (f ρ st).bind fun d st => (boolD d st).bind fun b st => if b = true then g ρ st else .ok (.bl false) st
def vOr (f g : SE) : SE := fun ρ st => (f ρ st).bind fun d st => (boolD d st).bind fun b st => if b = true then .ok (.bl true) st else g ρ st
theorem boolD_inv {G : Gc} {w : Wd} {d : D} {β : Type} {kk : Bool → Sto → Out β} {P : β → Wd → Prop} (h : WpE G W w ((boolD d w.st).bind kk) P) : ∃ b, d = .bl b ∧ WpE G W w (kk b w.st) P := by
  cases d with
  | bl b => exact ⟨b, rfl, h⟩
  | _ => exact h.elim
theorem de_one {op : BoolOp} (ha : DE X W a f) : DE X W (.BoolOp op [a] pos) f := ⟨pe_one ha.pe⟩
theorem de_not (ha : DE X W a f) : DE X W (.UnaryOp .Not a pos) (vNot f) := by
  refine ⟨PE_of (pe_not ha.pe) fun σ H Q ⟨w, ρ, e, gd, rl, wp⟩ => ?_⟩
  subst e
  refine ⟨w, ρ, rfl, gd, rl, (WpE.bind wp).mono fun x w1 l1 g1 q1 u r => ?_⟩
  obtain ⟨b, rfl, q⟩ := boolD_inv q1
  exact ⟨b, r.bl_eq, WpE.now g1 q _ rep_bl⟩
theorem de_and (ha : DE X W a f) (hb : DE X W (.BoolOp .And (b :: rest) pos) g) : DE X W (.BoolOp .And (a :: b :: rest) pos) (vAnd f g) := by
  refine ⟨PE_of (pe_and ha.pe hb.pe) fun σ H Q ⟨w, ρ, e, gd, rl, wp⟩ => ?_⟩
  subst e
  refine ⟨w, ρ, rfl, gd, rl, (WpE.bind wp).mono fun x w1 l1 g1 q1 u r => ?_⟩
  obtain ⟨b, rfl, q⟩ := boolD_inv q1
  refine ⟨b, r.bl_eq, ?_⟩
  cases b with
  | true => exact iteT ⟨w1, ρ, rfl, g1, rl.leE gd l1, q⟩
  | false => exact iteF (WpE.now (a := D.bl false) g1 q _ rep_bl)
theorem de_or (ha : DE X W a f) (hb : DE X W (.BoolOp .Or (b :: rest) pos) g) : DE X W (.BoolOp .Or (a :: b :: rest) pos) (vOr f g) := by
  refine ⟨PE_of (pe_or ha.pe hb.pe) fun σ H Q ⟨w, ρ, e, gd, rl, wp⟩ => ?_⟩
  subst e
  refine ⟨w, ρ, rfl, gd, rl, (WpE.bind wp).mono fun x w1 l1 g1 q1 u r => ?_⟩
  obtain ⟨b, rfl, q⟩ := boolD_inv q1
  refine ⟨b, r.bl_eq, ?_⟩
  cases b with
  | true => exact iteT (WpE.now (a := D.bl true) g1 q _ rep_bl)
  | false => exact iteF ⟨w1, ρ, rfl, g1, rl.leE gd l1, q⟩
def sIf (k : SB) (f g : SE) : SE := fun ρ st => (k ρ st).bind fun b st => if b = true then f ρ st else g ρ st
theorem de_if (hc : DT X W c k) (ha : DE X W a f) (hb : DE X W b g) : DE X W (.IfExp c a b pos) (sIf k f g) := by
  refine ⟨PE_of (pe_ifExp hc.pt ha.pe hb.pe) fun σ H Q ⟨w, ρ, e, gd, rl, wp⟩ => ?_⟩
  subst e
  refine ⟨w, ρ, rfl, gd, rl, (WpE.bind wp).mono fun x w1 l1 g1 q1 => ?_⟩
  cases x with
  | true => exact iteT ⟨w1, ρ, rfl, g1, rl.leE gd l1, q1⟩
  | false => exact iteF ⟨w1, ρ, rfl, g1, rl.leE gd l1, q1⟩
def sIfO (k : SB) (f g : SL) : SL := fun ρ st => (k ρ st).bind fun b st => if b = true then f ρ st else g ρ st
theorem do_if {f g : SL} (hc : DT X W c k) (ha : DO X W a f) (hb : DO X W b g) : DO X W (.IfExp c a b pos) (sIfO k f g) := by
  refine ⟨PE_of (pe_ifExp hc.pt ha.pe hb.pe) fun σ H Q ⟨w, ρ, e, gd, rl, wp⟩ => ?_⟩
  subst e
  refine ⟨w, ρ, rfl, gd, rl, (WpE.bind wp).mono fun x w1 l1 g1 q1 => ?_⟩
  cases x with
  | true => exact iteT ⟨w1, ρ, rfl, g1, rl.leE gd l1, q1.mono fun ds w2 l2 g2 q2 a vs m => q2 a vs (m.since l1)⟩
  | false => exact iteF ⟨w1, ρ, rfl, g1, rl.leE gd l1, q1.mono fun ds w2 l2 g2 q2 a vs m => q2 a vs (m.since l1)⟩
/-- a value's truth -/
def truD (d : D) (st : Sto) : Out Bool := match d with
  | .non => .ok false st
  | .bl b => .ok b st
  | .int i => .ok (i != 0) st
  | .str x => if x.length ≤ sizeLine then .ok ((x.length : Int) != 0) st else .bad
  | .tup xs => .ok (!xs.isEmpty) st
  | .lst xs => .ok (!xs.isEmpty) st
  | _ => .bad
theorem isEmpty_of_rep {K : PySem.W.Frag} {w : Wd} {ds : List D} {vs : List V} (r : RepL K w ds vs) : vs.isEmpty = ds.isEmpty := by
  have e := r.length
  cases ds <;> cases vs <;> simp at e <;> rfl
theorem dt_tru (ha : DV X W a f) (he : ∀ whole, isTrue a X.env whole = (do let v ← whole; standAt a.pos; holding [v] (truthy v)) := by intro _; rfl) : DT X W a (fun ρ st => (f ρ st).bind truD) := by
  refine ⟨PT_of (pt_truth ha.pe he) fun σ H Q ⟨w, ρ, e, gd, rl, wp⟩ => ?_⟩
  subst e
  refine ⟨w, ρ, rfl, gd, rl, (WpE.bind wp).mono fun x w1 l1 g1 q1 u r => ?_⟩
  unfold truD at q1
  split at q1
  · have e := (r.rep fun _ z => nomatch z).non_eq
    subst e
    exact ⟨false, rfl, WpE.now g1 q1⟩
  · have e := (r.rep fun _ z => nomatch z).bl_eq
    subst e
    exact ⟨_, rfl, WpE.now g1 q1⟩
  · have e := (r.rep fun _ z => nomatch z).int_eq
    subst e
    exact ⟨_, rfl, WpE.now g1 q1⟩
  · split at q1
    · rename_i z
      have e := (r.rep fun _ z => nomatch z).str_eq
      subst e
      exact ⟨_, ⟨z, rfl⟩, WpE.now g1 q1⟩
    · exact q1.elim
  · obtain ⟨a, vs, rfl, t, rr⟩ := (r.rep fun _ z => nomatch z).tup_eq
    exact ⟨_, .inr (.inl ⟨vs, t.sq, by rw [isEmpty_of_rep rr]⟩), WpE.now g1 q1⟩
  · obtain ⟨a, vs, rfl, t, rr⟩ := r.lst_eq
    exact ⟨_, .inl ⟨vs, .of t, by rw [isEmpty_of_rep rr]⟩, WpE.now g1 q1⟩
  · exact q1.elim
end
end Ds
set_option Elab.async false
set_option linter.all false
set_option maxRecDepth 100000
set_option maxHeartbeats 1000000
set_option autoImplicit false
/-! DsF: subscripts, slices. -/
namespace Ds
open PySem PySem.Spec PyProof.Rows L2
section
variable {X : Cx} {W : WX} {e a b c : Expr} {es : List Expr} {f g h : SE} {pos p2 : Pos}

/-! ### x[i] -/
def idxD (d i : D) (st : Sto) : Out D := match d, i with
  | .tup xs, .int i => (match atI xs i with | some x => .ok x st | none => .bad)
  | .lst xs, .int i => (match atI xs i with | some x => .ok x st | none => .bad)
  | .str z, .int i => if z.length ≤ sizeLine then (match atI z.cps.toList i with | some c => .ok (.str ⟨#[c]⟩) st | none => .bad) else .bad
  | _, _ => .bad
def sIx (f g : SE) : SE := fun ρ st => (f ρ st).bind fun d st1 => (g ρ st1).bind fun i st2 => (derefD d st2).bind fun d' st3 => idxD d' i st3
theorem atI_rep {K : PySem.W.Frag} {w : Wd} {ds : List D} {vs : List V} {i : Int} {d : D} (r : RepL K w ds vs) (h : atI ds i = some d) : ∃ v, atI vs i = some v ∧ Rep K w d v := by
  unfold atI at h ⊢
  rw [r.length]
  cases e : ixN ds.length i with
  | none => rw [e] at h; cases h
  | some j =>
    rw [e] at h
    obtain ⟨v, h1, h2⟩ := r.get (i := j) h
    exact ⟨v, h1, h2⟩
/-- a value, or a list of one's own, or a shared list, read now -/
theorem derefS {G : Gc} {w : Wd} {d : D} {v : V} {P : D → Wd → Prop} (g : Good G.K w) (r : Vs G.K w d v) (h : WpE G W w (derefD d w.st) P) : ∃ d', Vw G.K w d' v ∧ P d' w := by
  cases d with
  | ref n =>
    unfold derefD at h
    simp only at h
    split at h
    · rename_i ds hd
      obtain ⟨vs, e1, r1⟩ := g.at_ n ds hd
      have r' := r.vw.rep fun _ z => nomatch z
      unfold Rep at r'
      obtain ⟨_, rfl⟩ := r'
      exact ⟨.lst ds, .inr ⟨ds, _, vs, rfl, rfl, e1, r1⟩, h.now g⟩
    · exact h.elim
  | _ => exact ⟨_, r.vw, WpE.now g h⟩
theorem de_ix (ha : DU X W a f) (hb : DE X W b g) (hs : PlainIx b := by intro _ _; rfl) : DE X W (.Subscript a b pos) (sIx f g) := by
  refine ⟨PE_of (pe_ix ix_seq ha.pe hb.pe hs) fun σ H Q ⟨w, ρ, e, gd, rl, wp⟩ => ?_⟩
  subst e
  refine ⟨w, ρ, rfl, gd, rl, (WpE.bind wp).mono fun x w1 l1 g1 q1 u r => ⟨w1, ρ, rfl, g1, rl.leE gd l1, (WpE.bind q1).mono fun y w2 l2 g2 q2 v r2 => ?_⟩⟩
  obtain ⟨d', rv, q3⟩ := derefS g2 (r.leE g1 l2) (WpE.bind q2)
  unfold idxD at q3
  split at q3
  · split at q3
    · rename_i xs i _ z hz
      obtain ⟨p, vs, rfl, t, rr⟩ := (rv.rep fun _ z => nomatch z).tup_eq
      obtain ⟨vv, h1, h2⟩ := atI_rep rr hz
      exact .inr (.inl ⟨p, vs, i, vv, rfl, r2.int_eq, t.sq, h1, q3.now g2 _ h2⟩)
    · exact q3.elim
  · split at q3
    · rename_i xs i _ z hz
      obtain ⟨p, vs, rfl, t, rr⟩ := rv.lst_eq
      obtain ⟨vv, h1, h2⟩ := atI_rep rr hz
      exact .inl ⟨p, vs, i, vv, rfl, r2.int_eq, .of t, h1, q3.now g2 _ h2⟩
    · exact q3.elim
  · split at q3
    · rename_i z i hz
      split at q3
      · rename_i c hc
        exact .inr (.inr ⟨z, i, c, (rv.rep fun _ z => nomatch z).str_eq, r2.int_eq, hz, hc, q3.now g2 _ rep_str⟩)
      · exact q3.elim
    · exact q3.elim
  · exact q3.elim

/-! ### x[lo:hi] -/
abbrev SP := En → Sto → Out (Option Int)
def tPp (G : Gc) (W : WX) (f : SP) : TO := fun σ H Q => ∃ (w : Wd) (ρ : En), w.H = H ∧ Good G.K w ∧ RelEn G w ρ σ ∧ WpE G W w (f ρ w.st) fun o w' => Q o w'.H
structure DP (X : Cx) (W : WX) (e : Option Expr) (f : SP) : Prop where po : PO X e (tPp (gc X) W f)
def pNone : SP := fun _ st => .ok none st
def pSome (f : SE) : SP := fun ρ st => (f ρ st).bind fun d st => match d with
  | .int i => .ok (some i) st
  | _ => .bad
theorem dp_none : DP X W none pNone := ⟨⟨fun pins s σ H Q I ⟨w, ρ, e, gd, rl, wp⟩ => by subst e; exact po_none.run pins s σ _ Q I (WpE.now gd wp)⟩⟩
theorem dp_some (he : DE X W e f) : DP X W (some e) (pSome f) := by
  refine ⟨⟨fun pins s σ H Q I ⟨w, ρ, e, gd, rl, wp⟩ => ?_⟩⟩
  subst e
  refine (po_some he.pe).run pins s σ _ Q I ⟨w, ρ, rfl, gd, rl, (WpE.bind wp).mono fun d w1 l1 g1 q1 v r => ?_⟩
  split at q1
  · exact ⟨_, r.int_eq, q1.now g1⟩
  · exact q1.elim
def cutL {α : Type} (xs : List α) (lo hi : Option Int) : List α := (xs.drop (HT.sIx xs.length 0 lo)).take (HT.sIx xs.length xs.length hi - HT.sIx xs.length 0 lo)
theorem cutL_len {α : Type} (xs : List α) (lo hi : Option Int) : (cutL xs lo hi).length ≤ xs.length := by
  unfold cutL
  rw [List.length_take, List.length_drop]
  omega
theorem cut_rep {K : PySem.W.Frag} {w : Wd} {ds : List D} {vs : List V} {lo hi : Option Int} (r : RepL K w ds vs) : RepL K w (cutL ds lo hi) (cutV vs lo hi) := by
  unfold cutL cutV
  rw [r.length]
  exact (r.drop _).take _
def sliceD (d : D) (lo hi : Option Int) (st : Sto) : Out D := match d with
  | .tup xs => .ok (.tup (cutL xs lo hi)) st
  | .lst xs => .ok (.lst (cutL xs lo hi)) st
  | .fz xs => .ok (.lst (cutL xs lo hi)) st
  | .str z => if z.length ≤ sizeLine then .ok (.str (cutS z lo hi)) st else .bad
  | _ => .bad
def sSl (f : SE) (lo hi : SP) : SE := fun ρ st => (f ρ st).bind fun d st1 => (lo ρ st1).bind fun l st2 => (hi ρ st2).bind fun u st3 => (derefD d st3).bind fun d' st4 => sliceD d' l u st4
def rSl3 (K : PySem.W.Frag) : V → Option Int → Option Int → Hp → VK → Prop := fun x lo hi H Q => rSlA K x lo hi H Q ∨ rSlL K x lo hi H Q ∨ rSlS x lo hi H Q
theorem sl_3 : SlR X (rSl3 X.K) := sl_tupA.or (sl_list.or sl_str)
theorem cutL_whole {α : Type} {xs : List α} {lo hi : Option Int} (h : HT.sIx xs.length 0 lo = 0 ∧ HT.sIx xs.length xs.length hi = xs.length) : cutL xs lo hi = xs := by
  unfold cutL
  rw [h.1, h.2]
  simp
theorem de_sl {lo hi : Option Expr} {fl fh : SP} (ha : DU X W a f) (hl : DP X W lo fl) (hh : DP X W hi fh) : DE X W (.Subscript a (.Slice lo hi none p2) pos) (sSl f fl fh) := by
  refine ⟨PE_of (pe_slice sl_3 ha.pe hl.po hh.po) fun σ H Q ⟨w, ρ, e, gd, rl, wp⟩ => ?_⟩
  subst e
  refine ⟨w, ρ, rfl, gd, rl, (WpE.bind wp).mono fun x w1 l1 g1 q1 u r => ⟨w1, ρ, rfl, g1, rl.leE gd l1, (WpE.bind q1).mono fun lo w2 l2 g2 q2 => ⟨w2, ρ, rfl, g2, rl.leE gd (l1.trans l2), (WpE.bind q2).mono fun hi w3 l3 g3 q3 => ?_⟩⟩⟩
  obtain ⟨d', rv, q4⟩ := derefS g3 (r.leE g1 (l2.trans l3)) (WpE.bind q3)
  unfold sliceD at q4
  split at q4
  · rename_i xs
    obtain ⟨p, vs, rfl, t, rr⟩ := (rv.rep fun _ z => nomatch z).tup_eq
    refine .inl ⟨p, vs, rfl, t.sq, fun hw => ?_, fun hw q hq => ?_⟩
    · rw [rr.length] at hw
      rw [cutL_whole hw] at q4
      exact q4.now g3 _ (rep_tup t rr)
    · obtain ⟨l5, g5, r5⟩ := new_tup g3 hq (cut_rep (lo := lo) (hi := hi) rr) (Nat.le_trans (cutV_length _ _ _) (t.le g3.szt))
      exact q4.at' l5 g5 rfl _ r5
  · rename_i xs
    obtain ⟨p, vs, rfl, t, rr⟩ := rv.lst_eq
    refine .inr (.inl ⟨p, vs, rfl, .of t, fun q hq => ?_⟩)
    obtain ⟨l5, g5, r5⟩ := new_lst g3 hq (cut_rep (lo := lo) (hi := hi) rr) (Nat.le_trans (cutV_length _ _ _) (g3.szl _ _ t))
    exact q4.at' l5 g5 rfl _ r5
  · rename_i xs
    obtain ⟨p, vs, rfl, t, rr⟩ := (rv.rep fun _ z => nomatch z).fz_eq
    refine .inr (.inl ⟨p, vs, rfl, t.sq, fun q hq => ?_⟩)
    obtain ⟨l5, g5, r5⟩ := new_lst g3 hq (cut_rep (lo := lo) (hi := hi) rr) (Nat.le_trans (cutV_length _ _ _) t.1)
    exact q4.at' l5 g5 rfl _ r5
  · split at q4
    · rename_i z hz
      exact .inr (.inr ⟨z, (rv.rep fun _ z => nomatch z).str_eq, hz, q4.now g3 _ rep_str⟩)
    · exact q4.elim
  · exact q4.elim
def sSlO (f : SE) (lo hi : SP) : SL := fun ρ st => (f ρ st).bind fun d st1 => (lo ρ st1).bind fun l st2 => (hi ρ st2).bind fun u st3 => (derefD d st3).bind fun d' st4 => match d' with
  | .lst xs => .ok (cutL xs l u) st4
  | .fz xs => .ok (cutL xs l u) st4
  | _ => .bad
/-- a list's slice as a list of one's own -/
theorem do_sl {lo hi : Option Expr} {fl fh : SP} (ha : DU X W a f) (hl : DP X W lo fl) (hh : DP X W hi fh) : DO X W (.Subscript a (.Slice lo hi none p2) pos) (sSlO f fl fh) := by
  refine ⟨PE_of (pe_slice sl_list ha.pe hl.po hh.po) fun σ H Q ⟨w, ρ, e, gd, rl, wp⟩ => ?_⟩
  subst e
  refine ⟨w, ρ, rfl, gd, rl, (WpE.bind wp).mono fun x w1 l1 g1 q1 u r => ⟨w1, ρ, rfl, g1, rl.leE gd l1, (WpE.bind q1).mono fun lo w2 l2 g2 q2 => ⟨w2, ρ, rfl, g2, rl.leE gd (l1.trans l2), (WpE.bind q2).mono fun hi w3 l3 g3 q3 => ?_⟩⟩⟩
  obtain ⟨d', rv, q4⟩ := derefS g3 (r.leE g1 (l2.trans l3)) (WpE.bind q3)
  split at q4
  · rename_i xs
    obtain ⟨p, vs, rfl, t, rr⟩ := rv.lst_eq
    have hz := Nat.le_trans (cutV_length vs lo hi) (g3.szl _ _ t)
    refine ⟨p, vs, rfl, .of t, fun q hq => ?_⟩
    obtain ⟨l5, g5, r5⟩ := new_lst g3 hq (cut_rep (lo := lo) (hi := hi) rr) hz
    exact q4.at' l5 g5 rfl _ _ (Made.new (l1.trans (l2.trans l3)) g3 hq (cut_rep rr) hz)
  · rename_i xs
    obtain ⟨p, vs, rfl, t, rr⟩ := (rv.rep fun _ z => nomatch z).fz_eq
    have hz := Nat.le_trans (cutV_length vs lo hi) t.1
    refine ⟨p, vs, rfl, t.sq, fun q hq => ?_⟩
    obtain ⟨l5, g5, r5⟩ := new_lst g3 hq (cut_rep (lo := lo) (hi := hi) rr) hz
    exact q4.at' l5 g5 rfl _ _ (Made.new (l1.trans (l2.trans l3)) g3 hq (cut_rep rr) hz)
  · exact q4.elim

/-! ### x[::-1] -/
def sRevO (f : SE) : SL := fun ρ st => (f ρ st).bind fun d st1 => (derefD d st1).bind fun d' st4 => match d' with
  | .lst xs => .ok xs.reverse st4
  | _ => .bad
theorem do_rev {k : Nat} {p1 p3 p4 : Pos} (ha : DU X W a f) : DO X W (.Subscript a (.Slice none none (some (.UnaryOp .USub (.Constant (.int 1) k p1) p3)) p4) pos) (sRevO f) := by
  refine ⟨PE_of (pe_revL ha.pe) fun σ H Q ⟨w, ρ, e, gd, rl, wp⟩ => ?_⟩
  subst e
  refine ⟨w, ρ, rfl, gd, rl, (WpE.bind wp).mono fun x w1 l1 g1 q1 u r => ?_⟩
  obtain ⟨d', rv, q4⟩ := derefS g1 r (WpE.bind q1)
  split at q4
  · rename_i xs
    obtain ⟨p, vs, rfl, t, rr⟩ := rv.lst_eq
    have hz : vs.reverse.length ≤ sizeLine := by rw [List.length_reverse]; exact g1.szl _ _ t
    refine ⟨p, vs, rfl, .of t, fun q hq => ?_⟩
    obtain ⟨l5, g5, r5⟩ := new_lst g1 hq rr.reverse hz
    exact q4.at' l5 g5 rfl _ _ (Made.new l1 g1 hq rr.reverse hz)
  · exact q4.elim
end
end Ds

namespace Ds
open PySem PySem.Spec PyProof.Rows L2
section
variable {prog : Program} {w : World} {A : Around} {E : Value → Shared → Prop} {s : Shared}
theorem sliceApplied_rev {sl : Addr} {vs : Value} {n : Nat} {Q : Int × Int × Nat → Shared → Prop} (hs : s.heap.IsSliceOf sl .none .none vs) (ps : IsPart vs (some (-1)))
    (h : Q ((n : Int) - 1, -1, n) s) : wpAny (model prog w) A (Builtin.Slice.sliceApplied (.ref sl) (pure (n : Int))) Q E s := by
  obtain ⟨os, hos, hcs, hds⟩ := id hs
  unfold Builtin.Slice.sliceApplied Builtin.Slice.sliceFields
  refine wpAny_bind (wpAny_bind (wpAny_field hos hds (x := .none) rfl (wpAny_bind (wpAny_field hos hds (x := .none) rfl (wpAny_bind (wpAny_field hos hds (x := vs) rfl (wpAny_pure ?_)))))))
  refine wpAny_bind (HT.slicePart_ ps ?_)
  show wpAny _ _ (if ((-1 : Int) == 0) = true then _ else _) _ _ s
  rw [if_neg (by decide)]
  refine wpAny_bind (HT.slicePart_ .none (wpAny_bind (HT.slicePart_ .none (wpAny_bind (wpAny_pure ?_)))))
  show wpAny _ _ (pure ((n : Int) - 1, (-1 : Int), Builtin.Slice.slicePlaces ((n : Int) - 1) (-1) (-1))) _ _ s
  have e : Builtin.Slice.slicePlaces ((n : Int) - 1) (-1) (-1) = n := by
    unfold Builtin.Slice.slicePlaces
    have h1 : ¬ ((-1 : Int) > 0) := by decide
    simp only [h1, if_false]
    by_cases c : (n : Int) - 1 > -1
    · rw [if_pos c, show (- -1 : Int) = 1 by decide, Int.ediv_one]; omega
    · rw [if_neg c]; omega
  rw [e]
  exact wpAny_pure h
theorem fm_congr {α β : Type} {f g : α → Option β} : ∀ {l : List α}, (∀ a ∈ l, f a = g a) → l.filterMap f = l.filterMap g
  | [], _ => rfl
  | a :: l, h => by
    rw [List.filterMap_cons, List.filterMap_cons, h a List.mem_cons_self, fm_congr fun b hb => h b (List.mem_cons_of_mem _ hb)]
theorem pick_rev (xs : Array Value) : ((List.range xs.size).filterMap fun (m : Nat) => xs[(((xs.size : Int) - 1) + (m : Int) * (-1)).toNat]?).toArray = xs.toList.reverse.toArray := by
  congr 1
  obtain ⟨l⟩ := xs
  show ((List.range l.length).filterMap fun (m : Nat) => l.toArray[(((l.length : Int) - 1) + (m : Int) * (-1)).toNat]?) = l.reverse
  have e : ∀ m ∈ List.range l.length, l.toArray[(((l.length : Int) - 1) + (m : Int) * (-1)).toNat]? = l.reverse[m]? := fun m hm => by
    have hm' := List.mem_range.mp hm
    rw [List.getElem?_reverse hm']
    have e1 : (((l.length : Int) - 1) + (m : Int) * (-1)).toNat = l.length - 1 - m := by omega
    rw [e1]
    simp
  rw [fm_congr e]
  have : l.length = l.reverse.length := by simp
  rw [this]
  generalize l.reverse = r
  clear e this
  induction r with
  | nil => rfl
  | cons x r ih =>
    rw [List.length_cons, List.range_succ_eq_map, List.filterMap_cons]
    simp only [List.getElem?_cons_zero, List.filterMap_map]
    congr 1
theorem getItem_tuple_rev {t sl : Addr} {items : Array Value} {vs : Value} {Q : Value → Shared → Prop} (ht : IsTup s.heap t items) (hs : s.heap.IsSliceOf sl .none .none vs) (ps : IsPart vs (some (-1)))
    (h : Q (.ref s.heap.objs.size) { s with heap := s.heap.push { cls := .type "tuple", data := .seq items.toList.reverse.toArray } })
    (hsz : items.size ≤ sizeLine) : wpAny (model prog w) A (getItem (.ref t) (.ref sl)) Q E s := by
  have htake : sizeOk (.seq items.toList.reverse.toArray) := by
    show items.toList.reverse.toArray.size ≤ sizeLine
    rw [List.size_toArray, List.length_reverse, Array.length_toList]
    exact hsz
  obtain ⟨os, hos, hcs, hds⟩ := id hs
  have hTs : s.TypeIs (.ref sl) "slice" := ⟨os, hos, hcs⟩
  unfold getItem
  try with_reducible refine wpAny_holding ?_
  first | refine wpAny_bind (wpAny_pure ?_) | skip
  refine wpAny_bind (wpAny_sequenceKey ht.typeIs (by decide) ?_)
  refine wpAny_bind (wpAny_callSpecial?_slot (name := Str.ofString "__getitem__") ht.typeIs PyProof.Rows.slot_tuple_getitem
    (wpAny_call_entry PyProof.Rows.slot_tuple_getitem ht.typeIs PyProof.Rows.entry_tuple_getitem ?_ (PyProof.Rows.args_tuple_getitem _ _)))
  show wpAny _ _ (Builtin.Tuple.tupleItemsOf (.ref t) >>= _) _ _ s
  refine wpAny_bind (PyProof.Rows.tupleItemsOf_ ht ?_)
  refine wpAny_bind (wpAny_typeOf hTs ?_)
  rw [if_pos (by decide)]
  refine wpAny_bind (sliceApplied_rev hs ps ?_)
  have hno : ¬ ((((items.size : Int) - 1) == 0 && (-1 : Int) == 1 && items.size == items.size) = true) := by
    intro q
    rw [Bool.and_eq_true, Bool.and_eq_true] at q
    exact absurd (eq_of_beq q.1.2) (by decide)
  show wpAny _ _ (if (((items.size : Int) - 1) == 0 && (-1 : Int) == 1 && items.size == items.size) = true then _ else _) _ _ s
  rw [if_neg hno, pick_rev]
  first
    | exact wpAny_bind (m := Builtin.Tuple.tupleExact _) (wpAny_newObj_type (wpAny_pure ⟨_, rfl, wpAny_pure h⟩) htake)
    | exact wpAny_bind (m := Builtin.Tuple.tupleExact _) (wpAny_newObj_type (wpAny_bind (wpAny_pure (wpAny_pure ⟨_, rfl, wpAny_pure h⟩))) htake)
    | exact wpAny_bind (wpAny_bind (m := Builtin.Tuple.tupleExact _) (wpAny_newObj_type (wpAny_pure (wpAny_pure ⟨_, rfl, wpAny_pure h⟩)) htake))
    | exact wpAny_bind (wpAny_bind (m := Builtin.Tuple.tupleExact _) (wpAny_newObj_type (wpAny_pure ⟨_, rfl, wpAny_pure h⟩) htake))
end
section
variable {X : Cx} {W : WX} {e a b c : Expr} {es : List Expr} {f g h : SE} {pos p2 : Pos}
def tRevT (K : PySem.W.Frag) (te : TE) : TE := fun σ H Q => te σ H fun x H1 => ∃ a xs, x = .ref a ∧ SqT K H1 a xs ∧ ∀ p, H1 p = none → Q (.ref p) (upd H1 p (.tup xs.reverse))
theorem pe_revT {te : TE} {k : Nat} {p1 p2 p3 : Pos} (he : PE X e te) : PE X (.Subscript e (.Slice none none (some (.UnaryOp .USub (.Constant (.int 1) k p1) p2)) p3) pos) (tRevT X.K te) := by
  refine ⟨fun pins s σ H Q I h => ?_⟩
  refine Subscript_ (thn (he.run pins s σ H _ I h) fun v s1 ⟨x, H1, I1, r1, q1⟩ => ?_)
  obtain ⟨a, xs, ex, hx, q⟩ := q1
  subst ex
  cases r1
  have hst : PO X (some (.UnaryOp .USub (.Constant (.int 1) k p1) p2)) (tPart (tUn (rU fun i => .int (-i)) (tC (.int 1)))) := po_some (pe_un un_neg pe_int)
  refine wpAny_Slice (thn (po_none.run pins s1 σ H1 (fun o H2 => o = none ∧ H2 = H1) I1 ⟨rfl, rfl⟩) fun vl s2 ⟨l, H2, I2, pl, el, e2⟩ => ?_)
  subst el e2
  refine thn (po_none.run pins s2 σ H2 (fun o H3 => o = none ∧ H3 = H2) I2 ⟨rfl, rfl⟩) fun vu s3 ⟨u, H3, I3, pu, eu, e3⟩ => ?_
  subst eu e3
  refine thn (hst.run pins s3 σ H3 (fun o H4 => o = some (-1) ∧ H4 = H3) I3 ⟨1, rfl, -1, rfl, rfl, rfl⟩) fun vs s4 ⟨o, H4, I4, ps, eo, e4⟩ => ?_
  subst eo e4
  cases pl
  cases pu
  have I5 : Inv X pins σ H4 { s4 with heap := s4.heap.push { cls := .type "slice", data := .fields #[.none, .none, vs] } } := I4.kept (t' := s4.toks) fun b ob q => Heap.get?_push_of_some _ q
  obtain ⟨its, r, ht, hz⟩ := I5.tuple hx
  have hlen := r.length
  show wpAny (model X.prog X.w) X.A (subscriptTail e (.Slice none none (some (.UnaryOp .USub (.Constant (.int 1) k p1) p2)) p3) (.ref a) (.ref s4.heap.objs.size)) (EP X pins σ Q) X.xe { s4 with heap := s4.heap.push { cls := .type "slice", data := .fields #[.none, .none, vs] } }
  refine tail_any (ops := [.ref a, .ref s4.heap.objs.size]) ht.typeIs (PyProof.Rows.slot_tuple_getitem.lookup) ?_ (by with_unfolding_all rfl)
  refine getItem_tuple_rev ht (Heap.IsSliceOf.new _ .none .none vs) ps ?_ (by rw [List.size_toArray]; omega)
  refine ⟨.ref _, _, I5.laid (t' := s4.toks) (o := .tup xs.reverse) (fun b ob q => Heap.get?_push_of_some _ q) (Nat.le_refl _) ?_, rfl, q _ (I5.hok.fresh (Nat.le_refl _))⟩
  exact ⟨by rw [List.length_reverse]; exact hz, _, r.reverse, IsTup.new _ _⟩
def sRevT (f : SE) : SE := fun ρ st => (f ρ st).bind fun d st1 => match d with
  | .tup xs => .ok (.tup xs.reverse) st1
  | _ => .bad
theorem de_revT {k : Nat} {p1 p3 p4 : Pos} (ha : DE X W a f) : DE X W (.Subscript a (.Slice none none (some (.UnaryOp .USub (.Constant (.int 1) k p1) p3)) p4) pos) (sRevT f) := by
  refine ⟨PE_of (pe_revT ha.pe) fun σ H Q ⟨w, ρ, e, gd, rl, wp⟩ => ?_⟩
  subst e
  refine ⟨w, ρ, rfl, gd, rl, (WpE.bind wp).mono fun x w1 l1 g1 q1 u r => ?_⟩
  split at q1
  · rename_i xs
    obtain ⟨p, vs, rfl, t, rr⟩ := r.tup_eq
    refine ⟨p, vs, rfl, t.sq, fun q hq => ?_⟩
    obtain ⟨l5, g5, r5⟩ := new_tup g1 hq rr.reverse (by rw [List.length_reverse]; exact t.le g1.szt)
    exact q1.at' l5 g5 rfl _ r5
  · exact q1.elim
end
end Ds
set_option Elab.async false
set_option linter.all false
set_option maxRecDepth 100000
set_option maxHeartbeats 1000000
set_option autoImplicit false
/-! DsG: built-ins called by name, methods of texts. -/
namespace Ds
open PySem PySem.Spec PyProof.Rows L2
section
variable {X : Cx} {W : WX} {e a b c : Expr} {es : List Expr} {f g h : SE} {p pos p2 : Pos} {x : Str} {idn T : String} {r : List V → Hp → VK → Prop}
abbrev K1 := D → Sto → Out D
def OpK (G : Gc) (W : WX) (r : List V → Hp → VK → Prop) (k : K1) : Prop :=
  ∀ (w : Wd) (x : D) (v : V) (Q : VK), Good G.K w → Vw G.K w x v → WpE G W w (k x w.st) (fun d w' => ∀ z, Rep G.K w' d z → Q z w'.H) → r [v] w.H Q
def OpKO (G : Gc) (W : WX) (r : List V → Hp → VK → Prop) (k : D → Sto → Out (List D)) : Prop :=
  ∀ (w0 w : Wd) (x : D) (v : V) (Q : VK), LeE w0 w → Good G.K w → Vw G.K w x v → WpE G W w (k x w.st) (fun ds w' => ∀ a vs, Made G.K w0 w' a ds vs → Q (.ref a) w'.H) → r [v] w.H Q
theorem de_callB {k : K1} (hc : CallR X (.builtin idn) r) (hd : OpK (gc X) W r k) (hg : Gl X x) (hm : X.mg x = none) (hv : bootBuiltins x = some (.builtin idn)) (ha : DV X W e f) (hn : x ≠ "__name__" := by decide) (hdb : (x == ("__debug__" : Str)) = false := by decide)
    (he : starEach (e :: []) X.env = (false, eval e X.env) :: starEach [] X.env := by rfl) (hpl : (backTo pos (starEach [] X.env)).any (·.1) = false := by rfl) : DE X W (.Call (.Name x p) [e] [] pos) (s1 k f) := by
  refine ⟨PE_of (pe_callB hc hg hm hv (pa_cons ha.pe pa_nil he) hn hdb he hpl) fun σ H Q ⟨w, ρ, e, gd, rl, wp⟩ => ?_⟩
  subst e
  exact ⟨w, ρ, rfl, gd, rl, (WpE.bind wp).mono fun d w1 l1 g1 q1 v r1 => hd w1 d v Q g1 r1 q1⟩
theorem de_callT {k : K1} (hc : CallR X (.type T) r) (hd : OpK (gc X) W r k) (hg : Gl X x) (hm : X.mg x = none) (hv : bootBuiltins x = some (.type T)) (ha : DV X W e f) (hn : x ≠ "__name__" := by decide) (hdb : (x == ("__debug__" : Str)) = false := by decide)
    (he : starEach (e :: []) X.env = (false, eval e X.env) :: starEach [] X.env := by rfl) (hpl : (backTo pos (starEach [] X.env)).any (·.1) = false := by rfl) : DE X W (.Call (.Name x p) [e] [] pos) (s1 k f) := by
  refine ⟨PE_of (pe_callTy hc hg hm hv (pa_cons ha.pe pa_nil he) hn hdb he hpl) fun σ H Q ⟨w, ρ, e, gd, rl, wp⟩ => ?_⟩
  subst e
  exact ⟨w, ρ, rfl, gd, rl, (WpE.bind wp).mono fun d w1 l1 g1 q1 v r1 => hd w1 d v Q g1 r1 q1⟩
def s1O (k : D → Sto → Out (List D)) (f : SE) : SL := fun ρ st => (f ρ st).bind k
theorem do_callB {k : D → Sto → Out (List D)} (hc : CallR X (.builtin idn) r) (hd : OpKO (gc X) W r k) (hg : Gl X x) (hm : X.mg x = none) (hv : bootBuiltins x = some (.builtin idn)) (ha : DV X W e f) (hn : x ≠ "__name__" := by decide) (hdb : (x == ("__debug__" : Str)) = false := by decide)
    (he : starEach (e :: []) X.env = (false, eval e X.env) :: starEach [] X.env := by rfl) (hpl : (backTo pos (starEach [] X.env)).any (·.1) = false := by rfl) : DO X W (.Call (.Name x p) [e] [] pos) (s1O k f) := by
  refine ⟨PE_of (pe_callB hc hg hm hv (pa_cons ha.pe pa_nil he) hn hdb he hpl) fun σ H Q ⟨w, ρ, e, gd, rl, wp⟩ => ?_⟩
  subst e
  exact ⟨w, ρ, rfl, gd, rl, (WpE.bind wp).mono fun d w1 l1 g1 q1 v r1 => hd w w1 d v Q l1 g1 r1 q1⟩
theorem do_callT {k : D → Sto → Out (List D)} (hc : CallR X (.type T) r) (hd : OpKO (gc X) W r k) (hg : Gl X x) (hm : X.mg x = none) (hv : bootBuiltins x = some (.type T)) (ha : DV X W e f) (hn : x ≠ "__name__" := by decide) (hdb : (x == ("__debug__" : Str)) = false := by decide)
    (he : starEach (e :: []) X.env = (false, eval e X.env) :: starEach [] X.env := by rfl) (hpl : (backTo pos (starEach [] X.env)).any (·.1) = false := by rfl) : DO X W (.Call (.Name x p) [e] [] pos) (s1O k f) := by
  refine ⟨PE_of (pe_callTy hc hg hm hv (pa_cons ha.pe pa_nil he) hn hdb he hpl) fun σ H Q ⟨w, ρ, e, gd, rl, wp⟩ => ?_⟩
  subst e
  exact ⟨w, ρ, rfl, gd, rl, (WpE.bind wp).mono fun d w1 l1 g1 q1 v r1 => hd w w1 d v Q l1 g1 r1 q1⟩

/-! ### len, abs, int, str -/
def lenD : K1 := fun d st => match d with
  | .str y => if y.length ≤ sizeLine then .ok (.int y.length) st else .bad
  | .tup xs => .ok (.int xs.length) st
  | .lst xs => .ok (.int xs.length) st
  | .fz xs => .ok (.int xs.length) st
  | _ => .bad
theorem lenD_ok {G : Gc} : OpK G W (fun xs H Q => ∃ x n, xs = [x] ∧ LenV G.K x H n ∧ Q (.int n) H) lenD := by
  intro w d v Q g r q
  unfold lenD at q
  split at q
  · split at q
    · rename_i y z
      have e := (r.rep fun _ z => nomatch z).str_eq
      subst e
      exact ⟨_, _, rfl, ⟨z, rfl⟩, q.now g _ rep_int⟩
    · exact q.elim
  · obtain ⟨a, vs, rfl, t, rr⟩ := (r.rep fun _ z => nomatch z).tup_eq
    exact ⟨_, _, rfl, .inr ⟨vs, t.sq, rr.length.symm⟩, q.now g _ rep_int⟩
  · obtain ⟨a, vs, rfl, t, rr⟩ := r.lst_eq
    exact ⟨_, _, rfl, .inl ⟨vs, .of t, rr.length.symm⟩, q.now g _ rep_int⟩
  · obtain ⟨a, vs, rfl, t, rr⟩ := (r.rep fun _ z => nomatch z).fz_eq
    exact ⟨_, _, rfl, .inl ⟨vs, t.sq, rr.length.symm⟩, q.now g _ rep_int⟩
  · exact q.elim
theorem de_len (hg : Gl X "len") (hm : X.mg "len" = none) (ha : DV X W e f) (he : starEach (e :: []) X.env = (false, eval e X.env) :: starEach [] X.env := by rfl) (hpl : (backTo pos (starEach [] X.env)).any (·.1) = false := by rfl) :
    DE X W (.Call (.Name "len" p) [e] [] pos) (s1 lenD f) := de_callB call_len lenD_ok hg hm PySem.boot_len ha (by decide) (by decide) he hpl
def absD : K1 := fun d st => match d with
  | .int i => .ok (.int (if i < 0 then -i else i)) st
  | _ => .bad
theorem de_abs (hg : Gl X "abs") (hm : X.mg "abs" = none) (ha : DV X W e f) (he : starEach (e :: []) X.env = (false, eval e X.env) :: starEach [] X.env := by rfl) (hpl : (backTo pos (starEach [] X.env)).any (·.1) = false := by rfl) :
    DE X W (.Call (.Name "abs" p) [e] [] pos) (s1 absD f) := de_callB call_abs (fun w d v Q g r q => by
      unfold absD at q
      split at q
      · exact ⟨_, by rw [(r.rep fun _ z => nomatch z).int_eq], q.now g _ rep_int⟩
      · exact q.elim) hg hm (by decide +kernel) ha (by decide) (by decide) he hpl
def intD : K1 := fun d st => match d with
  | .int i => .ok (.int i) st
  | .bl b => .ok (.int (if b then 1 else 0)) st
  | _ => .bad
theorem de_intc (hg : Gl X "int") (hm : X.mg "int" = none) (ha : DV X W e f) (he : starEach (e :: []) X.env = (false, eval e X.env) :: starEach [] X.env := by rfl) (hpl : (backTo pos (starEach [] X.env)).any (·.1) = false := by rfl) :
    DE X W (.Call (.Name "int" p) [e] [] pos) (s1 intD f) := de_callT call_int1 (fun w d v Q g r q => by
      unfold intD at q
      split at q
      · exact .inl ⟨_, by rw [(r.rep fun _ z => nomatch z).int_eq], q.now g _ rep_int⟩
      · exact .inr ⟨_, by rw [(r.rep fun _ z => nomatch z).bl_eq], q.now g _ rep_int⟩
      · exact q.elim) hg hm (by decide +kernel) ha (by decide) (by decide) he hpl
def strD : K1 := fun d st => match d with
  | .int i => if i.natAbs.log2 < 1920 then .ok (.str (toString i)) st else .bad
  | _ => .bad
theorem de_strc (hg : Gl X "str") (hm : X.mg "str" = none) (ha : DV X W e f) (he : starEach (e :: []) X.env = (false, eval e X.env) :: starEach [] X.env := by rfl) (hpl : (backTo pos (starEach [] X.env)).any (·.1) = false := by rfl) :
    DE X W (.Call (.Name "str" p) [e] [] pos) (s1 strD f) := de_callT call_str_int (fun w d v Q g r q => by
      unfold strD at q
      split at q
      · split at q
        · rename_i z
          exact ⟨_, by rw [(r.rep fun _ z => nomatch z).int_eq], z, q.now g _ rep_str⟩
        · exact q.elim
      · exact q.elim) hg hm (by decide +kernel) ha (by decide) (by decide) he hpl

/-! ### min, max of two ints -/
def maxD (x y : D) (st : Sto) : Out D := match x, y with
  | .int i, .int j => .ok (.int (if j > i then j else i)) st
  | _, _ => .bad
def minD (x y : D) (st : Sto) : Out D := match x, y with
  | .int i, .int j => .ok (.int (if j < i then j else i)) st
  | _, _ => .bad
theorem de_max (hc : X.calm = true) (hg : Gl X "max") (hm : X.mg "max" = none) (ha : DE X W a f) (hb : DE X W b g) (h1 : starEach [b] X.env = (false, eval b X.env) :: starEach [] X.env := by rfl) (he : starEach (a :: [b]) X.env = (false, eval a X.env) :: starEach [b] X.env := by rfl) (hpl : (backTo pos (starEach [b] X.env)).any (·.1) = false := by rfl) :
    DE X W (.Call (.Name "max" p) [a, b] [] pos) (s2 maxD f g) := by
  refine ⟨PE_of (pe_callB (call_max2 hc) hg hm (by decide +kernel) (pa_cons ha.pe (pa_cons hb.pe pa_nil h1) he) (by decide) (by decide) he hpl) fun σ H Q ⟨w, ρ, e, gd, rl, wp⟩ => ?_⟩
  subst e
  refine ⟨w, ρ, rfl, gd, rl, (WpE.bind wp).mono fun d w1 l1 g1 q1 v r1 => ⟨w1, ρ, rfl, g1, rl.leE gd l1, (WpE.bind q1).mono fun d2 w2 l2 g2 q2 v2 r2 => ?_⟩⟩
  unfold maxD at q2
  split at q2
  · exact ⟨_, _, by rw [r1.int_eq, r2.int_eq], q2.now g2 _ rep_int⟩
  · exact q2.elim
theorem de_min (hc : X.calm = true) (hg : Gl X "min") (hm : X.mg "min" = none) (ha : DE X W a f) (hb : DE X W b g) (h1 : starEach [b] X.env = (false, eval b X.env) :: starEach [] X.env := by rfl) (he : starEach (a :: [b]) X.env = (false, eval a X.env) :: starEach [b] X.env := by rfl) (hpl : (backTo pos (starEach [b] X.env)).any (·.1) = false := by rfl) :
    DE X W (.Call (.Name "min" p) [a, b] [] pos) (s2 minD f g) := by
  refine ⟨PE_of (pe_callB (call_min2 hc) hg hm (by decide +kernel) (pa_cons ha.pe (pa_cons hb.pe pa_nil h1) he) (by decide) (by decide) he hpl) fun σ H Q ⟨w, ρ, e, gd, rl, wp⟩ => ?_⟩
  subst e
  refine ⟨w, ρ, rfl, gd, rl, (WpE.bind wp).mono fun d w1 l1 g1 q1 v r1 => ⟨w1, ρ, rfl, g1, rl.leE gd l1, (WpE.bind q1).mono fun d2 w2 l2 g2 q2 v2 r2 => ?_⟩⟩
  unfold minD at q2
  split at q2
  · exact ⟨_, _, by rw [r1.int_eq, r2.int_eq], q2.now g2 _ rep_int⟩
  · exact q2.elim

/-! ### isinstance(x, T), T a built-in class -/
def D.ty : D → String
  | .non => "NoneType" | .bl _ => "bool" | .int _ => "int" | .str _ => "str" | .tup _ => "tuple" | .lst _ => "list" | .fz _ => "list" | .ref _ => "list"
def isiD (T : String) : K1 := fun d st => match kitB d.ty T with
  | some b => .ok (.bl b) st
  | none => .bad
theorem tyx_of {K : PySem.W.Frag} {w : Wd} {d : D} {v : V} (g : Good K w) (r : Vs K w d v) (hr : ∀ n, d = .ref n → ∃ ds, w.st[n]? = some (some (.lst ds))) : TyX K w.H v (.type d.ty) := by
  cases d with
  | non => rw [(r.vw.rep fun _ z => nomatch z).non_eq]; exact .base .non
  | bl b => rw [(r.vw.rep fun _ z => nomatch z).bl_eq]; exact .base (.bl b)
  | int b => rw [(r.vw.rep fun _ z => nomatch z).int_eq]; exact .base (.int b)
  | str b => rw [(r.vw.rep fun _ z => nomatch z).str_eq]; exact .base (.str b)
  | tup xs =>
    obtain ⟨a, vs, rfl, t, rr⟩ := (r.vw.rep fun _ z => nomatch z).tup_eq
    rcases t with t | ⟨o, its, n, h1, h2, _⟩
    · exact .base (.tup t)
    · exact .kTuple h1 h2
  | lst xs =>
    obtain ⟨a, vs, rfl, t, rr⟩ := r.vw.lst_eq
    exact .base (.lst t)
  | fz xs =>
    obtain ⟨a, vs, rfl, ⟨_, t⟩, rr⟩ := (r.vw.rep fun _ z => nomatch z).fz_eq
    rcases t with ⟨o, t⟩ | ⟨o, its, n, h1, h2, _⟩
    · exact .base (.frz t)
    · exact .kList h1 h2
  | ref n =>
    obtain ⟨ds, hd⟩ := hr n rfl
    obtain ⟨vs, e1, r1⟩ := g.at_ n ds hd
    have r' := r.vw.rep fun _ z => nomatch z
    unfold Rep at r'
    obtain ⟨_, rfl⟩ := r'
    exact .base (.lst e1)
def isiR (T : String) : K1 := fun d st => match d with
  | .ref n => (match st[n]? with
    | some (some (.lst _)) => isiD T d st
    | _ => .bad)
  | d => isiD T d st
@[simp] theorem isiR_non {T : String} {st : Sto} : isiR T .non st = isiD T .non st := Eq.trans (Eq.refl _) (Eq.refl _)
@[simp] theorem isiR_bl {T : String} {st : Sto} {b : Bool} : isiR T (.bl b) st = isiD T (.bl b) st := Eq.trans (Eq.refl _) (Eq.refl _)
@[simp] theorem isiR_int {T : String} {st : Sto} {b : Int} : isiR T (.int b) st = isiD T (.int b) st := Eq.trans (Eq.refl _) (Eq.refl _)
@[simp] theorem isiR_str {T : String} {st : Sto} {b : Str} : isiR T (.str b) st = isiD T (.str b) st := Eq.trans (Eq.refl _) (Eq.refl _)
@[simp] theorem isiR_tup {T : String} {st : Sto} {b : List D} : isiR T (.tup b) st = isiD T (.tup b) st := Eq.trans (Eq.refl _) (Eq.refl _)
@[simp] theorem isiR_lst {T : String} {st : Sto} {b : List D} : isiR T (.lst b) st = isiD T (.lst b) st := Eq.trans (Eq.refl _) (Eq.refl _)
theorem de_isi {y : Str} (hg : Gl X "isinstance") (hm : X.mg "isinstance" = none) (hg2 : Gl X y) (hm2 : X.mg y = none) (hv2 : bootBuiltins y = some (.type T)) (ha : DU X W a f) (hn : y ≠ "__name__" := by decide) (hdb : (y == ("__debug__" : Str)) = false := by decide)
    (h1 : starEach [Expr.Name y p2] X.env = (false, eval (Expr.Name y p2) X.env) :: starEach [] X.env := by rfl) (he : starEach (a :: [Expr.Name y p2]) X.env = (false, eval a X.env) :: starEach [Expr.Name y p2] X.env := by rfl) (hpl : (backTo pos (starEach [Expr.Name y p2] X.env)).any (·.1) = false := by rfl) :
    DE X W (.Call (.Name "isinstance" p) [a, .Name y p2] [] pos) (s1 (isiR T) f) := by
  refine ⟨PE_of (pe_callB call_isi hg hm (by decide +kernel) (pa_cons ha.pe (pa_cons (pe_bltn (v := V.ty T) hg2 hm2 hv2 rfl hn hdb) pa_nil h1) he) (by decide) (by decide) he hpl) fun σ H Q ⟨w, ρ, e, gd, rl, wp⟩ => ?_⟩
  subst e
  refine ⟨w, ρ, rfl, gd, rl, (WpE.bind wp).mono fun d w1 l1 g1 q1 v r1 => ?_⟩
  have key : (∀ n, d = .ref n → ∃ ds, w1.st[n]? = some (some (.lst ds))) ∧ WpE (gc X) W w1 (isiD T d w1.st) (fun d w' => ∀ v, Rep X.K w' d v → Q v w'.H) := by
    cases d with
    | ref n =>
      unfold isiR at q1
      simp only at q1
      split at q1
      · rename_i ds hd
        exact ⟨fun m e => by cases e; exact ⟨ds, hd⟩, q1⟩
      · exact q1.elim
    | _ => exact ⟨(fun m e => nomatch e), q1⟩
  obtain ⟨hr, q2⟩ := key
  unfold isiD at q2
  split at q2
  · rename_i b hb
    exact ⟨v, .ty T, _, _, b, rfl, .ty T, tyx_of g1 r1 hr, kit_ty hb, q2.now g1 _ rep_bl⟩
  · exact q2.elim

/-! ### tuple(x), list(x) -/
def tupOfD : K1 := fun d st => match d with
  | .lst xs => .ok (.tup xs) st
  | .tup xs => .ok (.tup xs) st
  | _ => .bad
theorem de_tupc (hg : Gl X "tuple") (hm : X.mg "tuple" = none) (ha : DV X W e f) (he : starEach (e :: []) X.env = (false, eval e X.env) :: starEach [] X.env := by rfl) (hpl : (backTo pos (starEach [] X.env)).any (·.1) = false := by rfl) :
    DE X W (.Call (.Name "tuple" p) [e] [] pos) (s1 tupOfD f) := de_callT call_tuple_of (fun w d v Q g r q => by
      unfold tupOfD at q
      split at q
      · obtain ⟨a, vs, rfl, t, rr⟩ := r.lst_eq
        refine ⟨a, vs, rfl, .inl ⟨.of t, fun l hl => ?_⟩⟩
        obtain ⟨l5, g5, r5⟩ := new_tup g hl rr (g.szl _ _ t)
        exact q.at' l5 g5 rfl _ r5
      · have rt := r.rep fun _ z => nomatch z
        obtain ⟨a, vs, rfl, t, rr⟩ := rt.tup_eq
        exact ⟨a, vs, rfl, .inr ⟨t.sq, q.now g _ rt⟩⟩
      · exact q.elim) hg hm (by decide +kernel) ha (by decide) (by decide) he hpl
def lstOfD (d : D) (st : Sto) : Out (List D) := match d with
  | .lst xs => .ok xs st
  | .tup xs => .ok xs st
  | .fz xs => .ok xs st
  | _ => .bad
theorem do_lstc (hg : Gl X "list") (hm : X.mg "list" = none) (ha : DV X W e f) (he : starEach (e :: []) X.env = (false, eval e X.env) :: starEach [] X.env := by rfl) (hpl : (backTo pos (starEach [] X.env)).any (·.1) = false := by rfl) :
    DO X W (.Call (.Name "list" p) [e] [] pos) (s1O lstOfD f) := do_callT call_list_of (fun w0 w d v Q l0 g r q => by
      unfold lstOfD at q
      split at q
      · obtain ⟨a, vs, rfl, t, rr⟩ := r.lst_eq
        refine ⟨a, vs, rfl, .inl (.of t), fun l hl => ?_⟩
        obtain ⟨l5, g5, r5⟩ := new_lst g hl rr (g.szl _ _ t)
        exact q.at' l5 g5 rfl _ _ (Made.new l0 g hl rr (g.szl _ _ t))
      · obtain ⟨a, vs, rfl, t, rr⟩ := (r.rep fun _ z => nomatch z).tup_eq
        refine ⟨a, vs, rfl, .inr t.sq, fun l hl => ?_⟩
        obtain ⟨l5, g5, r5⟩ := new_lst g hl rr (t.le g.szt)
        exact q.at' l5 g5 rfl _ _ (Made.new l0 g hl rr (t.le g.szt))
      · obtain ⟨a, vs, rfl, t, rr⟩ := (r.rep fun _ z => nomatch z).fz_eq
        refine ⟨a, vs, rfl, .inl t.sq, fun l hl => ?_⟩
        obtain ⟨l5, g5, r5⟩ := new_lst g hl rr t.1
        exact q.at' l5 g5 rfl _ _ (Made.new l0 g hl rr t.1)
      · exact q.elim) hg hm (by decide +kernel) ha (by decide) (by decide) he hpl

/-! ### tuple(range(n)), list(range(n)) -/
def rgL (n : Int) : List D := (List.range n.toNat).map fun (i : Nat) => D.int (i : Int)
theorem rgL_rep {K : PySem.W.Frag} {w : Wd} {n : Int} : RepL K w (rgL n) (rgV 0 n) := by
  have e : rgV 0 n = ((List.range n.toNat).map fun (i : Nat) => ((i : Nat) : Int)).map V.int := by
    unfold rgV
    simp
  have e2 : rgL n = ((List.range n.toNat).map fun (i : Nat) => ((i : Nat) : Int)).map D.int := by
    unfold rgL
    simp
  rw [e, e2]
  exact RepL.ofInt _
def rgTD : K1 := fun d st => match d with
  | .int n => if 0 ≤ n ∧ n ≤ 16777216 then .ok (.tup (rgL n)) st else .bad
  | _ => .bad
def rgLD (d : D) (st : Sto) : Out (List D) := match d with
  | .int n => if 0 ≤ n ∧ n ≤ 16777216 then .ok (rgL n) st else .bad
  | _ => .bad
theorem rgV_len {n : Int} (h : n ≤ 16777216) : (rgV 0 n).length ≤ sizeLine := by rw [rgV_length, sizeLine_eq]; omega
theorem de_tuprg {q : Pos} (hc : X.calm = true) (hg : Gl X "tuple") (hm : X.mg "tuple" = none) (hg2 : Gl X "range") (hm2 : X.mg "range" = none) (ha : DE X W a f) (na : starEach [a] X.env = (false, eval a X.env) :: starEach [] X.env := by rfl)
    (nb : starEach [Expr.Call (.Name "range" p2) [a] [] q] X.env = (false, eval (Expr.Call (.Name "range" p2) [a] [] q) X.env) :: starEach [] X.env := by rfl) :
    DE X W (.Call (.Name "tuple" p) [.Call (.Name "range" p2) [a] [] q] [] pos) (s1 rgTD f) := by
  refine ⟨PE_of (pe_tupRg hc hg hm (prg_1 hg2 hm2 ha.pe na) nb) fun σ H Q ⟨w, ρ, e, gd, rl, wp⟩ => ?_⟩
  subst e
  refine ⟨w, ρ, rfl, gd, rl, (WpE.bind wp).mono fun d w1 l1 g1 q1 v r1 => ?_⟩
  unfold rgTD at q1
  split at q1
  · split at q1
    · rename_i n z
      obtain ⟨z0, z⟩ := z
      refine ⟨n, r1.int_eq, .of_le (Int.le_refl 0) z (by omega) z0, fun q hq => ?_⟩
      obtain ⟨l5, g5, r5⟩ := new_tup g1 hq (rgL_rep (n := n)) (rgV_len z)
      exact q1.at' l5 g5 rfl _ r5
    · exact q1.elim
  · exact q1.elim
theorem do_lstrg {q : Pos} (hc : X.calm = true) (hg : Gl X "list") (hm : X.mg "list" = none) (hg2 : Gl X "range") (hm2 : X.mg "range" = none) (ha : DE X W a f) (na : starEach [a] X.env = (false, eval a X.env) :: starEach [] X.env := by rfl)
    (nb : starEach [Expr.Call (.Name "range" p2) [a] [] q] X.env = (false, eval (Expr.Call (.Name "range" p2) [a] [] q) X.env) :: starEach [] X.env := by rfl) :
    DO X W (.Call (.Name "list" p) [.Call (.Name "range" p2) [a] [] q] [] pos) (s1O rgLD f) := by
  refine ⟨PE_of (pe_listRg hc hg hm (prg_1 hg2 hm2 ha.pe na) nb) fun σ H Q ⟨w, ρ, e, gd, rl, wp⟩ => ?_⟩
  subst e
  refine ⟨w, ρ, rfl, gd, rl, (WpE.bind wp).mono fun d w1 l1 g1 q1 v r1 => ?_⟩
  unfold rgLD at q1
  split at q1
  · split at q1
    · rename_i n z
      obtain ⟨z0, z⟩ := z
      refine ⟨n, r1.int_eq, .of_le (Int.le_refl 0) z (by omega) z0, fun q hq => ?_⟩
      obtain ⟨l5, g5, r5⟩ := new_lst g1 hq (rgL_rep (n := n)) (rgV_len z)
      exact q1.at' l5 g5 rfl _ _ (Made.new l1 g1 hq rgL_rep (rgV_len z))
    · exact q1.elim
  · exact q1.elim

/-! ### all, any, join, sorted -/
def strsOf : List D → Option (List Str)
  | [] => some []
  | .str x :: r => (strsOf r).map (x :: ·)
  | _ :: _ => none
theorem strsOf_eq : ∀ {ds : List D} {xs : List Str}, strsOf ds = some xs → ds = xs.map D.str
  | [], xs, h => by cases h; rfl
  | d :: r, xs, h => by
    cases d with
    | str x =>
      unfold strsOf at h
      cases e : strsOf r with
      | none => rw [e] at h; cases h
      | some ys => rw [e] at h; cases h; rw [strsOf_eq e]; rfl
    | _ => cases h
@[simp] theorem strsOf_map : ∀ (xs : List Str), strsOf (xs.map D.str) = some xs
  | [] => rfl
  | x :: r => by show (strsOf (r.map D.str)).map (x :: ·) = _; rw [strsOf_map r]; rfl
def blsOf : List D → Option (List Bool)
  | [] => some []
  | .bl x :: r => (blsOf r).map (x :: ·)
  | _ :: _ => none
theorem blsOf_eq : ∀ {ds : List D} {xs : List Bool}, blsOf ds = some xs → ds = xs.map D.bl
  | [], xs, h => by cases h; rfl
  | d :: r, xs, h => by
    cases d with
    | bl x =>
      unfold blsOf at h
      cases e : blsOf r with
      | none => rw [e] at h; cases h
      | some ys => rw [e] at h; cases h; rw [blsOf_eq e]; rfl
    | _ => cases h
@[simp] theorem blsOf_map : ∀ (xs : List Bool), blsOf (xs.map D.bl) = some xs
  | [] => rfl
  | x :: r => by show (blsOf (r.map D.bl)).map (x :: ·) = _; rw [blsOf_map r]; rfl
def allD : K1 := fun d st => match d with
  | .lst xs => (match blsOf xs with
    | some bs => .ok (.bl (bs.all id)) st
    | none => .bad)
  | _ => .bad
def anyD : K1 := fun d st => match d with
  | .lst xs => (match blsOf xs with
    | some bs => .ok (.bl (bs.any id)) st
    | none => .bad)
  | _ => .bad
theorem de_all (hc : X.calm = true) (hg : Gl X "all") (hm : X.mg "all" = none) (ha : DV X W e f) (he : starEach (e :: []) X.env = (false, eval e X.env) :: starEach [] X.env := by rfl) (hpl : (backTo pos (starEach [] X.env)).any (·.1) = false := by rfl) :
    DE X W (.Call (.Name "all" p) [e] [] pos) (s1 allD f) := de_callB (cr_all hc) (fun w d v Q g r q => by
      unfold allD at q
      split at q
      · split at q
        · rename_i xs _ bs hb
          have e := blsOf_eq hb
          subst e
          obtain ⟨a, vs, rfl, t, rr⟩ := r.lst_eq
          have e2 := rr.mapBl
          subst e2
          exact ⟨a, bs, rfl, .of t, q.now g _ rep_bl⟩
        · exact q.elim
      · exact q.elim) hg hm (by decide +kernel) ha (by decide) (by decide) he hpl
theorem de_any (hc : X.calm = true) (hg : Gl X "any") (hm : X.mg "any" = none) (ha : DV X W e f) (he : starEach (e :: []) X.env = (false, eval e X.env) :: starEach [] X.env := by rfl) (hpl : (backTo pos (starEach [] X.env)).any (·.1) = false := by rfl) :
    DE X W (.Call (.Name "any" p) [e] [] pos) (s1 anyD f) := de_callB (cr_any hc) (fun w d v Q g r q => by
      unfold anyD at q
      split at q
      · split at q
        · rename_i xs _ bs hb
          have e := blsOf_eq hb
          subst e
          obtain ⟨a, vs, rfl, t, rr⟩ := r.lst_eq
          have e2 := rr.mapBl
          subst e2
          exact ⟨a, bs, rfl, .of t, q.now g _ rep_bl⟩
        · exact q.elim
      · exact q.elim) hg hm (by decide +kernel) ha (by decide) (by decide) he hpl
def joinD (z : Str) : K1 := fun d st => match d with
  | .lst xs => (match strsOf xs with
    | some ys => if (ys.map (·.length)).sum + ys.length * z.length ≤ 16777216 then .ok (.str (Txt.join z ys)) st else .bad
    | none => .bad)
  | _ => .bad
def sJoin (f g : SE) : SE := fun ρ st => (f ρ st).bind fun s st1 => match s with
  | .str z => (g ρ st1).bind (joinD z)
  | _ => .bad
theorem de_join {o : Expr} {apos : Pos} (ho : DE X W o f) (ha : DV X W e g) (hs : starEach [e] X.env = [(false, eval e X.env)] := by rfl) (hbase : attributeBase o "join" X.env (eval o X.env) = eval o X.env := by rfl) (hline : (apos.endLine == pos.line) = true := by rfl) :
    DE X W (.Call (.Attribute o "join" apos) [e] [] pos) (sJoin f g) := by
  refine ⟨PE_of (pe_join ho.pe ha.pe hs hbase hline) fun σ H Q ⟨w, ρ, e, gd, rl, wp⟩ => ?_⟩
  subst e
  refine ⟨w, ρ, rfl, gd, rl, (WpE.bind wp).mono fun x w1 l1 g1 q1 u r => ?_⟩
  split at q1
  · rename_i z
    refine ⟨⟨z, r.str_eq⟩, ⟨w1, ρ, rfl, g1, rl.leE gd l1, (WpE.bind q1).mono fun y w2 l2 g2 q2 v r2 => ?_⟩⟩
    unfold joinD at q2
    split at q2
    · split at q2
      · rename_i xs _ ys hy
        have e := strsOf_eq hy
        subst e
        obtain ⟨a, vs, rfl, t, rr⟩ := r2.lst_eq
        have e2 := rr.mapStr
        subst e2
        split at q2
        · rename_i hz
          exact ⟨_, a, ys, r.str_eq, rfl, .inl (.of t), hz, q2.now g2 _ rep_str⟩
        · exact q2.elim
      · exact q2.elim
    · exact q2.elim
  · exact q1.elim

/-! ### sorted, of texts -/
def sortStrs (xs : List Str) : List Str := xs.mergeSort fun a b => decide (a.cps.toList ≤ b.cps.toList)
theorem str_ext {x y : Str} (h : x.cps.toList = y.cps.toList) : x = y := by
  obtain ⟨⟨a⟩⟩ := x
  obtain ⟨⟨b⟩⟩ := y
  have h' : a = b := h
  rw [h']
theorem rising_pw : ∀ (p : Str) (l : List Str), risingS p l = true → (p :: l).Pairwise fun a b => a.cps.toList ≤ b.cps.toList
  | p, [], _ => by simp
  | p, x :: r, h => by
    have h' : (!ltCps x.cps.toList p.cps.toList && risingS x r) = true := h
    obtain ⟨h1, h2⟩ := Bool.and_eq_true_iff.mp h'
    have ih := rising_pw x r h2
    have hx : p.cps.toList ≤ x.cps.toList := by
      rw [ltCps_eq] at h1
      have h3 : ¬ x.cps.toList < p.cps.toList := by simpa using h1
      exact List.not_lt.mp h3
    refine List.pairwise_cons.mpr ⟨fun b hb => ?_, ih⟩
    rcases List.mem_cons.mp hb with rfl | hb
    · exact hx
    · exact List.le_trans hx ((List.pairwise_cons.mp ih).1 b hb)
theorem sorted_pw {l : List Str} (h : sortedS l = true) : l.Pairwise fun a b => a.cps.toList ≤ b.cps.toList := by
  cases l with
  | nil => exact .nil
  | cons x r => exact rising_pw x r h
theorem sort_unique {xs ys : List Str} (p : ys.Perm xs) (h : sortedS ys = true) : ys = sortStrs xs := by
  have p2 : (sortStrs xs).Perm xs := List.mergeSort_perm _ _
  have s2 : (sortStrs xs).Pairwise fun a b => a.cps.toList ≤ b.cps.toList := by
    have q := List.pairwise_mergeSort (le := fun a b : Str => decide (a.cps.toList ≤ b.cps.toList)) (fun a b c h1 h2 => by
      simp only [decide_eq_true_eq] at h1 h2 ⊢
      exact List.le_trans h1 h2) (fun a b => by
      simp only [Bool.or_eq_true, decide_eq_true_eq]
      exact List.le_total _ _) xs
    exact q.imp fun h => by simpa using h
  exact (p.trans p2.symm).eq_of_pairwise (fun x y _ _ h1 h2 => str_ext (List.le_antisymm h1 h2)) (sorted_pw h) s2
def sortD (d : D) (st : Sto) : Out (List D) := match d with
  | .lst xs => (match strsOf xs with
    | some ys => if ys.length < 64 then .ok ((sortStrs ys).map D.str) st else .bad
    | none => .bad)
  | _ => .bad
theorem do_sorted (hg : Gl X "sorted") (hm : X.mg "sorted" = none) (ha : DV X W e f) (he : starEach (e :: []) X.env = (false, eval e X.env) :: starEach [] X.env := by rfl) (hpl : (backTo pos (starEach [] X.env)).any (·.1) = false := by rfl) :
    DO X W (.Call (.Name "sorted" p) [e] [] pos) (s1O sortD f) := do_callB cr_sortedS (fun w0 w d v Q l0 g r q => by
      unfold sortD at q
      split at q
      · split at q
        · rename_i xs _ ys hy
          have e := strsOf_eq hy
          subst e
          obtain ⟨a, vs, rfl, t, rr⟩ := r.lst_eq
          have e2 := rr.mapStr
          subst e2
          split at q
          · rename_i hz
            refine ⟨a, ys, rfl, .of t, hz, fun zs p hp hs hn => ?_⟩
            have ez := sort_unique hp hs
            subst ez
            have hl : ((sortStrs ys).map V.str).length ≤ sizeLine := by
              rw [List.length_map, hp.length_eq]; exact small64 hz
            obtain ⟨l5, g5, r5⟩ := new_lst g hn (RepL.ofStr (sortStrs ys)) hl
            exact q.at' l5 g5 rfl _ _ (Made.new l0 g hn (RepL.ofStr _) hl)
          · exact q.elim
        · exact q.elim
      · exact q.elim) hg hm (by decide +kernel) ha (by decide) (by decide) he hpl
end
end Ds
set_option Elab.async false
set_option linter.all false
set_option maxRecDepth 100000
set_option maxHeartbeats 1000000
set_option autoImplicit false
/-! DsH: what a def is worth; its call; statements. -/
namespace Ds
open PySem PySem.Spec PyProof.Rows L2

/-! ### worlds seen by a callee -/
mutual
theorem Rep.relabel {K : PySem.W.Frag} {w w' : Wd} (hm : w'.μ = w.μ) (hs : w'.st = w.st) (hH : w'.H = w.H) (hp : ∀ b, ¬ w.Ml b → ¬ w.O b → ¬ w.P b → ¬ w'.O b ∧ ¬ w'.P b) : ∀ (d : D) (v : V), Rep K w d v → Rep K w' d v
  | .non, v, h => by unfold Rep at h ⊢; exact h
  | .bl b, v, h => by unfold Rep at h ⊢; exact h
  | .int i, v, h => by unfold Rep at h ⊢; exact h
  | .str x, v, h => by unfold Rep at h ⊢; exact h
  | .tup ds, v, h => by
    unfold Rep at h ⊢
    obtain ⟨a, vs, e, t, r⟩ := h
    exact ⟨a, vs, e, by rw [hH]; exact t, RepL.relabel hm hs hH hp ds vs r⟩
  | .lst ds, v, h => by
    unfold Rep at h ⊢
    obtain ⟨a, vs, e, t, n1, n2, n3, r⟩ := h
    obtain ⟨p1, p2⟩ := hp a n1 n2 n3
    exact ⟨a, vs, e, by rw [hH]; exact t, by unfold Wd.Ml; rw [hm, hs]; exact n1, p1, p2, RepL.relabel hm hs hH hp ds vs r⟩
  | .fz ds, v, h => by
    unfold Rep at h ⊢
    obtain ⟨a, vs, e, t, r⟩ := h
    exact ⟨a, vs, e, by rw [hH]; exact t, RepL.relabel hm hs hH hp ds vs r⟩
  | .ref n, v, h => by
    unfold Rep at h ⊢
    rw [hm, hs]
    exact h
theorem RepL.relabel {K : PySem.W.Frag} {w w' : Wd} (hm : w'.μ = w.μ) (hs : w'.st = w.st) (hH : w'.H = w.H) (hp : ∀ b, ¬ w.Ml b → ¬ w.O b → ¬ w.P b → ¬ w'.O b ∧ ¬ w'.P b) : ∀ (ds : List D) (vs : List V), RepL K w ds vs → RepL K w' ds vs
  | [], vs, h => by rw [h.nil_eq]; exact .nil
  | d :: ds, vs, h => by
    obtain ⟨v, r, rfl, p, t⟩ := h.uncons
    exact .cons (Rep.relabel hm hs hH hp d v p) (RepL.relabel hm hs hH hp ds r t)
end
/-- what the callee starts from -/
def Wd.enter (w : Wd) : Wd := { w with O := fun _ => False, P := fun a => w.P a ∨ w.O a }
/-- what the caller goes on from -/
def Wd.leave (w w2 : Wd) : Wd := { w2 with O := w.O, P := w.P }
section
variable {K : PySem.W.Frag} {w w2 : Wd}
theorem enter_rep {d : D} {v : V} (h : Rep K w d v) : Rep K w.enter d v :=
  Rep.relabel (w := w) (w' := w.enter) rfl rfl rfl (fun b _ n1 n2 => ⟨fun z => z, fun z => z.elim n2 n1⟩) d v h
theorem enter_repL {ds : List D} {vs : List V} (h : RepL K w ds vs) : RepL K w.enter ds vs :=
  RepL.relabel (w := w) (w' := w.enter) rfl rfl rfl (fun b _ n1 n2 => ⟨fun z => z, fun z => z.elim n2 n1⟩) ds vs h
theorem enter_good (g : Good K w) : Good K w.enter where
  inj := g.inj
  at_ := fun n ds e => let ⟨vs, h, r⟩ := g.at_ n ds e; ⟨vs, h, enter_repL r⟩
  mo := fun a q => ⟨fun z => z, fun z => z.elim (g.mo a q).2 (g.mo a q).1⟩
  ow := fun a q => q.elim
  pr := fun a q => q.elim (g.pr a) fun z => let ⟨⟨vs, e⟩, _⟩ := g.ow a z; ⟨_, e⟩
  szl := g.szl
  szt := g.szt
theorem leave_ok (g : Good K w) (l : LeF w.enter w2) {a : Addr} (h1 : ¬ w2.O a) (h2 : ¬ w2.P a) : ¬ w.O a ∧ ¬ w.P a := by
  rw [l.pp] at h2
  exact ⟨fun z => h2 (.inr z), fun z => h2 (.inl z)⟩
theorem leave_rep (g : Good K w) (l : LeF w.enter w2) {d : D} {v : V} (h : Rep K w2 d v) : Rep K (w.leave w2) d v :=
  Rep.relabel (w := w2) (w' := w.leave w2) rfl rfl rfl (fun b _ n1 n2 => leave_ok g l n1 n2) d v h
theorem leave_repL (g : Good K w) (l : LeF w.enter w2) {ds : List D} {vs : List V} (h : RepL K w2 ds vs) : RepL K (w.leave w2) ds vs :=
  RepL.relabel (w := w2) (w' := w.leave w2) rfl rfl rfl (fun b _ n1 n2 => leave_ok g l n1 n2) ds vs h
theorem leave_le (g : Good K w) (l : LeF w.enter w2) : LeE w (w.leave w2) where
  mu := l.mu
  len := l.len
  pp := rfl
  keep := fun a o e n => let ⟨h1, h2, _⟩ := l.keep a o e n (fun z => z); ⟨h1, h2⟩
  own := fun _ h => h
  ofr := fun _ _ _ _ h => h
  dom := l.dom
  liv := l.liv
theorem leave_good (g : Good K w) (l : LeF w.enter w2) (g2 : Good K w2) : Good K (w.leave w2) where
  inj := g2.inj
  at_ := fun n ds e => let ⟨vs, h, r⟩ := g2.at_ n ds e; ⟨vs, h, leave_repL g l r⟩
  mo := fun a q => leave_ok g l (g2.mo a q).1 (g2.mo a q).2
  ow := fun a q => by
    obtain ⟨⟨vs, e⟩, n⟩ := g.ow a q
    exact ⟨⟨vs, (l.keep a _ e (fun z => (g.mo a z).1 q) fun z => z).1⟩, n⟩
  pr := fun a q => let ⟨o, e⟩ := g.pr a q; l.dom a o e
  szl := g2.szl
  szt := g2.szt
theorem leave_made {a : Addr} {ds : List D} {vs : List V} (g : Good K w) (l : LeF w.enter w2) (g2 : Good K w2) (m : Made K w.enter w2 a ds vs) : Made K w (w.leave w2) a ds vs := by
  have no : ¬ w.O a := fun z => by
    obtain ⟨⟨us, e⟩, _⟩ := g.ow a z
    have h0 : w.H a = none := m.old
    rw [h0] at e; cases e
  have gl := leave_good g l g2
  have hpp : ∀ b, ¬ (w2.plus a).O b → ¬ (w2.plus a).P b → ¬ ((w.leave w2).plus a).O b ∧ ¬ ((w.leave w2).plus a).P b := fun b n1 n2 => by
    have n1' : ¬ w2.O b := fun z => n1 (.inl z)
    obtain ⟨q1, q2⟩ := leave_ok (K := K) g l n1' n2
    exact ⟨fun z => z.elim q1 fun z => n1 (.inr z), q2⟩
  have qa : (w2.plus a).O a := .inr rfl
  obtain ⟨⟨us, ea⟩, npa⟩ := m.good.ow a qa
  have npa' : ¬ w.P a := fun z => npa (by show w2.P a; rw [l.pp]; exact .inl z)
  refine ⟨m.old, m.at_, no, ⟨gl.inj, fun n es e => ?_, fun b q => ?_, fun b q => ?_, gl.pr, gl.szl, gl.szt⟩, RepL.relabel (w := w2.plus a) (w' := (w.leave w2).plus a) rfl rfl rfl (fun b _ n1 n2 => hpp b n1 n2) _ _ m.rep⟩
  · obtain ⟨vs', h, r⟩ := m.good.at_ n es e
    exact ⟨vs', h, RepL.relabel (w := w2.plus a) (w' := (w.leave w2).plus a) rfl rfl rfl (fun b _ n1 n2 => hpp b n1 n2) _ _ r⟩
  · obtain ⟨q1, q2⟩ := gl.mo b q
    refine ⟨fun z => z.elim q1 fun z => ?_, q2⟩
    subst z
    exact (m.good.mo b q).1 qa
  · rcases q with q | q
    · exact gl.ow b q
    · subst q
      exact ⟨⟨us, ea⟩, npa'⟩
end

/-! ### a def -/
abbrev SemF := List D → Sto → Out SV
def RetOk (G : Gc) (w : Wd) (Q : VK) : SV → Wd → Prop
  | .val d, w' => ∀ v, Rep G.K w' d v → Q v w'.H
  | .own ds, w' => ∀ a vs, Made G.K w w' a ds vs → Q (.ref a) w'.H
def spF (G : Gc) (n : Nat) (F : SemF) : Sp := fun vs H Q E => ∃ (w : Wd) (ds : List D), w.H = H ∧ (∀ a, ¬ w.O a) ∧ Good G.K w ∧ RepL G.K w ds vs ∧ ds.length = n ∧
  WpS G (fun cls d _ H' => E cls d H') w (F ds w.st) (RetOk G w Q)
theorem spF_len {G : Gc} {n : Nat} {F : SemF} {vs : List V} {H : Hp} {Q : VK} {E : XK} (h : spF G n F vs H Q E) : vs.length = n := by
  obtain ⟨w, ds, _, _, _, r, e, _⟩ := h
  rw [r.length, e]
/-- a def of the text that is worth F, at level k -/
structure FdOk (P : Program) (w : World) (K : PySem.W.Frag) (mg : Str → Option Value) (base : Heap) (k : Nat) (x : Str) (ps : List Str) (dv : List D) (F : SemF) : Prop where
  ex : ∃ (f : Addr) (fd : FuncData) (dvs : List V) (ds : List Value), mg x = some (.ref f) ∧ PySem.W.keepIn K (.ref f) = true ∧ FnOk P w K mg base (L2.CX P w) k f fd ps (spF ⟨K, mg, none⟩ ps.length F) ∧ Binds K fd ps ds ∧ Vals dvs ds ∧ ∀ w, RepL K w dv dvs
  ar : ∀ ds st, ds.length ≠ ps.length → F ds st = .bad
section
variable {X : Cx} {W : WX} {x : Str} {p pos : Pos} {e : Expr} {es : List Expr} {fl : SL} {k : Nat} {ps : List Str} {F : SemF}
/-- an exception comes with the caller's slots -/
def withEn (ρ : En) (o : Out SV) : Out SV := match o with
  | .err x _ st => .err x ρ st
  | o => o
@[simp] theorem withEn_ok {ρ : En} {r : SV} {st : Sto} : withEn ρ (.ok r st) = .ok r st := Eq.trans (Eq.refl _) (Eq.refl _)
@[simp] theorem withEn_err {ρ ρ' : En} {x : Ex} {st : Sto} : withEn ρ (.err x ρ' st) = .err x ρ st := Eq.trans (Eq.refl _) (Eq.refl _)
@[simp] theorem withEn_bad {ρ : En} : withEn ρ .bad = .bad := Eq.trans (Eq.refl _) (Eq.refl _)
def sCall (F : SemF) (dv : List D) (fl : SL) : SE := fun ρ st => (fl ρ st).bind fun ds st1 => (withEn ρ (F (ds ++ dv) st1)).bind fun r st2 => match r with
  | .val d => .ok d st2
  | .own ds => .ok (.lst ds) st2
def sCallO (F : SemF) (dv : List D) (fl : SL) : SL := fun ρ st => (fl ρ st).bind fun ds st1 => (withEn ρ (F (ds ++ dv) st1)).bind fun r st2 => match r with
  | .val _ => .bad
  | .own ds => .ok ds st2
theorem call_wp {G : Gc} {w : Wd} {ρ : En} {σ : L2.St} {ds : List D} {vs : List V} {Q : VK} {n : Nat} {R : SV → Wd → Prop} (g : Good G.K w) (rl : RelEn G w ρ σ) (r : RepL G.K w ds vs) (hn : ds.length = n) (h : WpE G W w (withEn ρ (F ds w.st)) R)
    (hQ : ∀ s w', LeE w w' → Good G.K w' → R s w' → (match s with | .val d => ∀ v, Rep G.K w' d v → Q v w'.H | .own ds => ∀ a vs, Made G.K w w' a ds vs → Q (.ref a) w'.H)) :
    spF ⟨G.K, G.mg, none⟩ n F vs w.H Q (fun cls d H' => W cls d σ H') := by
  refine ⟨w.enter, ds, rfl, fun _ z => z, enter_good g, enter_repL r, hn, ?_⟩
  show WpS _ _ w.enter (F ds w.st) _
  cases e : F ds w.st with
  | bad => rw [e] at h; exact h.elim
  | ok s st =>
    rw [e] at h
    intro w2 l g2 e2
    have l' := leave_le g l
    have g' := leave_good g l g2
    have q := hQ s (w.leave w2) l' g' (h _ l' g' e2)
    cases s with
    | val d => exact fun v rv => q v (leave_rep g l rv)
    | own es => exact fun a us m => q a us (leave_made g l g2 m)
  | err xx ρ' st =>
    rw [e] at h
    intro w2 σ' cls d l g2 e2 _ rx
    have l' := leave_le g l
    have g' := leave_good g l g2
    refine h (w.leave w2) σ cls d l'.toF g' e2 (rl.leE g l') ?_
    obtain ⟨r1, r2⟩ := rx
    refine ⟨r1, ?_⟩
    rcases r2 with r2 | ⟨a, fvs, h1, h2, h3, h4⟩
    · exact .inl r2
    · refine .inr ⟨a, fvs, h1, h2, fun z => h3 ?_, fun f e he => ?_⟩
      · rw [l.pp]; exact .inl z
      · obtain ⟨v, q1, q2⟩ := h4 f e he
        exact ⟨v, q1, leave_rep g l q2⟩
theorem arity {G : Gc} {w : Wd} {ρ : En} {ds : List D} {n : Nat} {β : Type} {kk : SV → Sto → Out β} {P : β → Wd → Prop} (h : WpE G W w ((withEn ρ (F ds w.st)).bind kk) P) (ar : ∀ ds st, ds.length ≠ n → F ds st = .bad) : ds.length = n := by
  by_cases c : ds.length = n
  · exact c
  · rw [ar _ _ c] at h; exact h.elim
theorem de_call {dv : List D} (FD : FdOk X.prog X.w X.K X.mg X.base k x ps dv F) (hr : Room k X.A) (tk : Takes X W) (hg : Gl X x) (ha : DA X W (e :: es) fl) (hdb : (x == ("__debug__" : Str)) = false := by decide)
    (he : starEach (e :: es) X.env = (false, eval e X.env) :: starEach es X.env := by rfl) (hpl : (backTo pos (starEach es X.env)).any (·.1) = false := by rfl) :
    DE X W (.Call (.Name x p) (e :: es) [] pos) (sCall F dv fl) := by
  obtain ⟨f, fd, dvs, dsv, hm, hk, FF, hb, hd, hdv⟩ := FD.ex
  refine ⟨PE_of (pe_callSD FF hr hg hm hk hb hd (fun σ => passAt tk σ) ha.pa hdb he hpl) fun σ H Q ⟨w, ρ, e, gd, rl, wp⟩ => ?_⟩
  subst e
  refine ⟨w, ρ, rfl, gd, rl, (WpE.bind wp).mono fun ds w1 l1 g1 q1 vs r => ?_⟩
  refine call_wp (W := W) (ρ := ρ) g1 (rl.leE gd l1) (r.append (hdv w1)) (arity q1 FD.ar) (WpE.bind q1) fun s w' l' g' q => ?_
  cases s with
  | val d => exact q.now g'
  | own es => exact fun a us m => q.now g' _ m.frozen
theorem do_call {dv : List D} (FD : FdOk X.prog X.w X.K X.mg X.base k x ps dv F) (hr : Room k X.A) (tk : Takes X W) (hg : Gl X x) (ha : DA X W (e :: es) fl) (hdb : (x == ("__debug__" : Str)) = false := by decide)
    (he : starEach (e :: es) X.env = (false, eval e X.env) :: starEach es X.env := by rfl) (hpl : (backTo pos (starEach es X.env)).any (·.1) = false := by rfl) :
    DO X W (.Call (.Name x p) (e :: es) [] pos) (sCallO F dv fl) := by
  obtain ⟨f, fd, dvs, dsv, hm, hk, FF, hb, hd, hdv⟩ := FD.ex
  refine ⟨PE_of (pe_callSD FF hr hg hm hk hb hd (fun σ => passAt tk σ) ha.pa hdb he hpl) fun σ H Q ⟨w, ρ, e, gd, rl, wp⟩ => ?_⟩
  subst e
  refine ⟨w, ρ, rfl, gd, rl, (WpE.bind wp).mono fun ds w1 l1 g1 q1 vs r => ?_⟩
  refine call_wp (W := W) (ρ := ρ) g1 (rl.leE gd l1) (r.append (hdv w1)) (arity q1 FD.ar) (WpE.bind q1) fun s w' l' g' q => ?_
  cases s with
  | val d => exact q.elim
  | own es => exact fun a us m => q.now g' a us (m.since l1)
end

/-! ### statements -/
inductive Fl where
  | nx (ρ : En) | rt (r : SV) | bk (ρ : En) | ct (ρ : En)
abbrev SS := En → Sto → Out Fl
/-- what is wanted behind a statement -/
def EndOk (G : Gc) (D : Ends) : Fl → Wd → Prop
  | .nx ρ, w' => ∀ σ, RelEn G w' ρ σ → D.nx σ w'.H
  | .rt (.val d), w' => ∀ v, Rep G.K w' d v → D.rt v w'.H
  | .rt (.own ds), w' => ∀ a vs, w'.H a = some (.lst vs) → RepL G.K w' ds vs → w'.O a → D.rt (.ref a) w'.H
  | .bk ρ, w' => ∀ σ, RelEn G w' ρ σ → D.bk σ w'.H
  | .ct ρ, w' => ∀ σ, RelEn G w' ρ σ → D.ct σ w'.H
def tS (G : Gc) (W : WX) (f : SS) : TS := fun D σ H => ∃ (w : Wd) (ρ : En), w.H = H ∧ Good G.K w ∧ RelEn G w ρ σ ∧ WpS G W w (f ρ w.st) (EndOk G D)
structure DS (X : Cx) (W : WX) (s : Stmt) (f : SS) : Prop where ps : PS X s (tS (gc X) W f)
structure DSs (X : Cx) (W : WX) (s : List Stmt) (f : SS) : Prop where ps : PSs X s (tS (gc X) W f)
theorem PS_of {X : Cx} {e : Stmt} {t t' : TS} (h : PS X e t) (k : ∀ D σ H, t' D σ H → t D σ H) : PS X e t' := ⟨fun pins s σ H D I q => h.run pins s σ H D I (k D σ H q)⟩
theorem PSs_of {X : Cx} {e : List Stmt} {t t' : TS} (h : PSs X e t) (k : ∀ D σ H, t' D σ H → t D σ H) : PSs X e t' := ⟨fun pins s σ H D I q => h.run pins s σ H D I (k D σ H q)⟩
section
variable {X : Cx} {W : WX} {G : Gc} {w : Wd} {α : Type} {P : α → Wd → Prop}
theorem WpS.now {a : α} (g : Good G.K w) (h : WpS G W w (.ok a w.st) P) : P a w := h w (LeF.refl w) g rfl
theorem WpS.at' {a : α} {st : Sto} (h : WpS G W w (.ok a st) P) {w' : Wd} (l : LeF w w') (g : Good G.K w') (e : w'.st = st) : P a w' := h w' l g e
end
def qNil : SS := fun ρ st => .ok (.nx ρ) st
def qSeq (f g : SS) : SS := fun ρ st => (f ρ st).bind fun fl st1 => match fl with
  | .nx ρ1 => g ρ1 st1
  | fl => .ok fl st1
section
variable {X : Cx} {W : WX} {s : Stmt} {ss b1 b2 : List Stmt} {e a b o v : Expr} {f g : SS} {fe fa fb : SE} {fl : SL} {k : SB} {pos pos' p1 : Pos}
theorem dss_nil : DSs X W [] qNil := ⟨PSs_of pss_nil fun D σ H ⟨w, ρ, e, gd, rl, wp⟩ => by subst e; exact WpS.now gd wp σ rl⟩
theorem seq_ok {G : Gc} {D : Ends} {w : Wd} {ρ : En} (h : WpS G W w (qSeq f g ρ w.st) (EndOk G D)) : WpS G W w (f ρ w.st) (EndOk G { D with nx := tS G W g D }) := by
  refine WpS.mono (WpS.bind h) fun fl w1 l1 g1 q => ?_
  cases fl with
  | nx ρ1 => exact fun σ rl => ⟨w1, ρ1, rfl, g1, rl, q⟩
  | rt r => cases r <;> exact WpS.now (W := W) g1 q
  | bk ρ => exact WpS.now (W := W) g1 q
  | ct ρ => exact WpS.now (W := W) g1 q
theorem dss_cons (h1 : DS X W s f) (h2 : DSs X W ss g) : DSs X W (s :: ss) (qSeq f g) :=
  ⟨PSs_of (pss_cons h1.ps h2.ps) fun D σ H ⟨w, ρ, e, gd, rl, wp⟩ => ⟨w, ρ, e, gd, rl, seq_ok wp⟩⟩
theorem dss_one (h1 : DS X W s f) : DSs X W [s] f := ⟨pss_one h1.ps⟩
theorem ds_never : DS X W s (fun _ _ => .bad) := ⟨⟨fun pins s σ H D I ⟨w, ρ, e, gd, rl, wp⟩ => wp.elim⟩⟩
theorem dss_never : DSs X W ss (fun _ _ => .bad) := ⟨⟨fun pins s σ H D I ⟨w, ρ, e, gd, rl, wp⟩ => wp.elim⟩⟩
theorem ds_pass : DS X W (.Pass pos) qNil := ⟨PS_of ps_pass fun D σ H ⟨w, ρ, e, gd, rl, wp⟩ => by subst e; exact WpS.now gd wp σ rl⟩
def qBreak : SS := fun ρ st => .ok (.bk ρ) st
def qCont : SS := fun ρ st => .ok (.ct ρ) st
theorem ds_break : DS X W (.Break pos) qBreak := ⟨PS_of ps_break fun D σ H ⟨w, ρ, e, gd, rl, wp⟩ => by subst e; exact WpS.now gd wp σ rl⟩
theorem ds_cont : DS X W (.Continue pos) qCont := ⟨PS_of ps_continue fun D σ H ⟨w, ρ, e, gd, rl, wp⟩ => by subst e; exact WpS.now gd wp σ rl⟩
/-! a name is stored -/
def setV (i : Nat) (d : D) (ρ : En) (st : Sto) : Out Fl := if i < ρ.length then .ok (.nx (ρ.set i (some (.val d)))) st else .bad
def setO (i : Nat) (ds : List D) (ρ : En) (st : Sto) : Out Fl := if i < ρ.length then .ok (.nx (ρ.set i (some (.own ds)))) st else .bad
def qSet (i : Nat) (f : SE) : SS := fun ρ st => (f ρ st).bind fun d st1 => setV i d ρ st1
def qSetO (i : Nat) (f : SL) : SS := fun ρ st => (f ρ st).bind fun ds st1 => setO i ds ρ st1
theorem ds_set {i : Nat} {x : Str} (hN : X.N.Nodup) (hi : X.N[i]? = some x) (hx : Loc X.env.scope x) (he : DE X W e fe) (hs : swapsWith e (some (.Name x pos')) pos.line X.env = pure false := by rfl) (hf : X.fn x = true ∨ X.env.scope.names.lookup x = some .local := by first | exact .inl rfl | exact .inr rfl | assumption) :
    DS X W (.Assign [.Name x pos'] e pos) (qSet i fe) := by
  refine ⟨PS_of (ps_set hN hi hx he.pe hs hf) fun D σ H ⟨w, ρ, e, gd, rl, wp⟩ => ?_⟩
  subst e
  refine ⟨w, ρ, rfl, gd, rl, (WpS.bindE wp).mono fun d w1 l1 g1 q v r => ?_⟩
  unfold setV at q
  split at q
  · rename_i hi
    exact WpS.now g1 q _ ((rl.leE gd l1).setVal r hi)
  · exact q.elim
theorem own_apart {G : Gc} {w w' : Wd} {ρ : En} {σ : L2.St} {a : Addr} {ds : List D} {vs : List V} (rl : RelEn G w ρ σ) (m : Made G.K w w' a ds vs) : Apart ρ σ a := fun i es h z => by
  obtain ⟨b, us, h1, _, h3, _⟩ := rl.own i es h
  rw [z] at h1
  simp only [Option.some.injEq, V.ref.injEq] at h1
  subst h1
  have h0 : w.H a = none := m.old
  rw [h0] at h3; cases h3
theorem setO_ok {G : Gc} {En' : Ends} {w w1 : Wd} {ρ : En} {σ : L2.St} {i : Nat} {a : Addr} {ds : List D} {vs : List V} (gd : Good G.K w) (rl : RelEn G w ρ σ) (l1 : LeE w w1) (m : Made G.K w w1 a ds vs) (q : WpS G W w (setO i ds ρ w1.st) (EndOk G En')) : En'.nx (σ.set i (some (.ref a))) w1.H := by
  unfold setO at q
  split at q
  · rename_i hi
    have lp := m.le l1
    exact q.at' lp.toF m.good rfl _ ((rl.leE gd lp).setOwn (.inr rfl) m.at_ m.rep (own_apart rl m) hi)
  · exact q.elim
theorem ds_setO {i : Nat} {x : Str} (hN : X.N.Nodup) (hi : X.N[i]? = some x) (hx : Loc X.env.scope x) (he : DO X W e fl) (hs : swapsWith e (some (.Name x pos')) pos.line X.env = pure false := by rfl) (hf : X.fn x = true ∨ X.env.scope.names.lookup x = some .local := by first | exact .inl rfl | exact .inr rfl | assumption) :
    DS X W (.Assign [.Name x pos'] e pos) (qSetO i fl) := by
  refine ⟨PS_of (ps_set hN hi hx he.pe hs hf) fun D σ H ⟨w, ρ, e, gd, rl, wp⟩ => ?_⟩
  subst e
  exact ⟨w, ρ, rfl, gd, rl, (WpS.bindE0 wp).mono fun ds w1 l1 g1 q a vs m => setO_ok gd rl l1 m q⟩
/-- x = e, x a name of a comprehension's or loop's target too -/
inductive Tgt where
  | nm (i : Nat) | tp (ts : List Tgt)
mutual
def Tgt.bind : Tgt → D → En → Option En
  | .nm i, d, ρ => if i < ρ.length then some (ρ.set i (some (.val d))) else none
  | .tp ts, .tup ds, ρ => Tgt.binds ts ds ρ
  | .tp _, _, _ => none
def Tgt.binds : List Tgt → List D → En → Option En
  | [], [], ρ => some ρ
  | t :: ts, d :: ds, ρ => (t.bind d ρ).bind fun ρ1 => Tgt.binds ts ds ρ1
  | _, _, _ => none
end
end
mutual
def Tgt.g (K : PySem.W.Frag) : Tgt → TG
  | .nm i => gName i
  | .tp ts => gTup K ts.length (Tgt.gs K ts)
def Tgt.gs (K : PySem.W.Frag) : List Tgt → TGs
  | [] => gNil
  | t :: ts => gCons (t.g K) (Tgt.gs K ts)
end
theorem binds_len : ∀ (ts : List Tgt) (ds : List D) (ρ ρ' : En), Tgt.binds ts ds ρ = some ρ' → ds.length = ts.length
  | [], [], _, _, _ => rfl
  | t :: ts, d :: ds, ρ, ρ', h => by
    unfold Tgt.binds at h
    cases e : t.bind d ρ with
    | none => rw [e] at h; cases h
    | some ρ1 =>
      rw [e] at h
      rw [List.length_cons, List.length_cons, binds_len ts ds ρ1 ρ' h]
  | [], d :: ds, _, _, h => by simp [Tgt.binds] at h
  | t :: ts, [], _, _, h => by simp [Tgt.binds] at h
mutual
theorem tgt_ok {G : Gc} {w : Wd} : ∀ (t : Tgt) (d : D) (v : V) (ρ ρ' : En) (σ : L2.St) (Q : L2.St → Hp → Prop), RelEn G w ρ σ → Rep G.K w d v → t.bind d ρ = some ρ' → (∀ σ', RelEn G w ρ' σ' → Q σ' w.H) → t.g G.K v σ w.H Q
  | .nm i, d, v, ρ, ρ', σ, Q, rl, r, h, q => by
    unfold Tgt.bind at h
    unfold Tgt.g
    split at h
    · rename_i hi
      cases h
      exact q _ (rl.setVal r hi)
    · cases h
  | .tp ts, .tup ds, v, ρ, ρ', σ, Q, rl, r, h, q => by
    unfold Tgt.bind at h
    unfold Tgt.g
    obtain ⟨a, vs, rfl, t, rr⟩ := r.tup_eq
    exact ⟨a, vs, rfl, t.sq, by rw [rr.length, binds_len _ _ _ _ h], tgts_ok ts ds vs ρ ρ' σ Q rl rr h q⟩
  | .tp ts, .non, v, ρ, ρ', σ, Q, rl, r, h, q => by simp [Tgt.bind] at h
  | .tp ts, .bl _, v, ρ, ρ', σ, Q, rl, r, h, q => by simp [Tgt.bind] at h
  | .tp ts, .int _, v, ρ, ρ', σ, Q, rl, r, h, q => by simp [Tgt.bind] at h
  | .tp ts, .str _, v, ρ, ρ', σ, Q, rl, r, h, q => by simp [Tgt.bind] at h
  | .tp ts, .lst _, v, ρ, ρ', σ, Q, rl, r, h, q => by simp [Tgt.bind] at h
  | .tp ts, .fz _, v, ρ, ρ', σ, Q, rl, r, h, q => by simp [Tgt.bind] at h
  | .tp ts, .ref _, v, ρ, ρ', σ, Q, rl, r, h, q => by simp [Tgt.bind] at h
theorem tgts_ok {G : Gc} {w : Wd} : ∀ (ts : List Tgt) (ds : List D) (vs : List V) (ρ ρ' : En) (σ : L2.St) (Q : L2.St → Hp → Prop), RelEn G w ρ σ → RepL G.K w ds vs → Tgt.binds ts ds ρ = some ρ' → (∀ σ', RelEn G w ρ' σ' → Q σ' w.H) → Tgt.gs G.K ts vs σ w.H Q
  | [], [], vs, ρ, ρ', σ, Q, rl, r, h, q => by
    unfold Tgt.binds at h
    cases h
    unfold Tgt.gs
    exact ⟨r.nil_eq, q _ rl⟩
  | t :: ts, d :: ds, vs, ρ, ρ', σ, Q, rl, r, h, q => by
    unfold Tgt.binds at h
    obtain ⟨v, us, rfl, r1, r2⟩ := r.uncons
    cases e : t.bind d ρ with
    | none => rw [e] at h; cases h
    | some ρ1 =>
      rw [e] at h
      unfold Tgt.gs
      exact ⟨v, us, rfl, tgt_ok t d v ρ ρ1 σ _ rl r1 e fun σ1 rl1 => tgts_ok ts ds us ρ1 ρ' σ1 Q rl1 r2 h q⟩
  | [], d :: ds, vs, ρ, ρ', σ, Q, rl, r, h, q => by simp [Tgt.binds] at h
  | t :: ts, [], vs, ρ, ρ', σ, Q, rl, r, h, q => by simp [Tgt.binds] at h
end
/-- a target of names -/
structure DG (X : Cx) (tg : Expr) (t : Tgt) : Prop where pg : PG X tg (t.g X.K)
structure DGs (X : Cx) (tgs : List Expr) (ts : List Tgt) : Prop where pg : PGs X tgs (Tgt.gs X.K ts)
section
variable {X : Cx} {W : WX} {s : Stmt} {ss b1 b2 : List Stmt} {e a b o v : Expr} {es : List Expr} {f g : SS} {fe fa fb : SE} {fl : SL} {k : SB} {pos pos' p1 : Pos} {t : Tgt} {ts : List Tgt} {tg : Expr} {tgs : List Expr}
theorem dg_nm {i : Nat} {x : Str} (hN : X.N.Nodup) (hi : X.N[i]? = some x) (hx : Loc X.env.scope x) (hf : X.fn x = true ∨ X.env.scope.names.lookup x = some .local := by first | exact .inl rfl | exact .inr rfl | assumption) : DG X (.Name x pos) (.nm i) := ⟨pg_name hN hi hx hf⟩
theorem dgs_nil : DGs X [] [] := ⟨pgs_nil⟩
theorem dgs_cons (h1 : DG X e t) (h2 : DGs X es ts) (hs : (assignEach (e :: es) X.env).map (·.2) = assign e X.env :: (assignEach es X.env).map (·.2) := by rfl) : DGs X (e :: es) (t :: ts) := ⟨pgs_cons h1.pg h2.pg hs⟩
theorem dg_tp {k : Nat} (hc : X.calm = true) (h : DGs X es ts) (hn : (assignEach es X.env).length = ts.length := by rfl) (hst : (assignEach es X.env).findIdx? (·.1) = none := by rfl) : DG X (.Tuple es k pos) (.tp ts) := ⟨pg_tup hc h.pg hn hst⟩
def qAsg (t : Tgt) (f : SE) : SS := fun ρ st => (f ρ st).bind fun d st1 => match t.bind d ρ with
  | some ρ' => .ok (.nx ρ') st1
  | none => .bad
theorem ds_asg (he : DE X W e fe) (hg : DG X tg t) (hs : swapsWithSole [tg] e pos.line X.env = pure false := by rfl) (hw : swappedStores [tg] e X.env = pure none := by rfl)
    (h1 : (assignEach [tg] X.env).map (·.2) = [assign tg X.env] := by rfl) : DS X W (.Assign [tg] e pos) (qAsg t fe) := by
  refine ⟨PS_of (ps_asg he.pe hg.pg hs hw h1) fun D σ H ⟨w, ρ, e, gd, rl, wp⟩ => ?_⟩
  subst e
  refine ⟨w, ρ, rfl, gd, rl, (WpS.bindE wp).mono fun d w1 l1 g1 q v r => ?_⟩
  split at q
  · rename_i ρ' h
    exact tgt_ok t d v ρ ρ' σ _ (rl.leE gd l1) r h (WpS.now g1 q)
  · exact q.elim
/-- an expression whose value is dropped -/
def qDrop (f : SE) : SS := fun ρ st => (f ρ st).bind fun _ st1 => .ok (.nx ρ) st1
theorem ds_expr (he : DE X W e fe) (hs : swapsWith e none pos.line X.env = pure false := by rfl) : DS X W (.Expr e pos) (qDrop fe) := by
  refine ⟨PS_of (ps_expr he.pe hs) fun D σ H ⟨w, ρ, e, gd, rl, wp⟩ => ?_⟩
  subst e
  exact ⟨w, ρ, rfl, gd, rl, (WpS.bindE wp).mono fun d w1 l1 g1 q v r => WpS.now g1 q _ (rl.leE gd l1)⟩
theorem ds_doc {x : Str} {j : Nat} : DS X W (.Expr (.Constant (.str x) j pos) pos') qNil := ⟨PS_of ps_doc fun D σ H ⟨w, ρ, e, gd, rl, wp⟩ => by subst e; exact WpS.now gd wp σ rl⟩
/-- return -/
def qRet (f : SE) : SS := fun ρ st => (f ρ st).bind fun d st1 => .ok (.rt (.val d)) st1
def qRetO (f : SL) : SS := fun ρ st => (f ρ st).bind fun ds st1 => .ok (.rt (.own ds)) st1
def qRetN : SS := fun ρ st => .ok (.rt (.val .non)) st
theorem ds_ret (he : DE X W e fe) : DS X W (.Return (some e) pos) (qRet fe) := by
  refine ⟨PS_of (ps_ret he.pe) fun D σ H ⟨w, ρ, e, gd, rl, wp⟩ => ?_⟩
  subst e
  exact ⟨w, ρ, rfl, gd, rl, (WpS.bindE wp).mono fun d w1 l1 g1 q v r => WpS.now g1 q v r⟩
theorem ds_retO (he : DO X W e fl) : DS X W (.Return (some e) pos) (qRetO fl) := by
  refine ⟨PS_of (ps_ret he.pe) fun D σ H ⟨w, ρ, e, gd, rl, wp⟩ => ?_⟩
  subst e
  exact ⟨w, ρ, rfl, gd, rl, (WpS.bindE0 wp).mono fun ds w1 l1 g1 q a vs m => (q.at' (m.le l1).toF m.good rfl) a vs m.at_ m.rep (.inr rfl)⟩
/-- a list of one's own is handed back -/
def qRetV (i : Nat) : SS := fun ρ st => match ρ[i]? with
  | some (some (.own ds)) => .ok (.rt (.own ds)) st
  | _ => .bad
theorem ds_retV {i : Nat} {x : Str} (hN : X.N[i]? = some x := by rfl) (hv : Vis X.env.scope x := by first | exact Or.inl rfl | exact Or.inr (Or.inl rfl) | exact Or.inr (Or.inr rfl)) (hd : (x == ("__debug__" : Str)) = false := by decide)
    (hcd : (x == ("__classdict__" : Str)) = false := by decide) : DS X W (.Return (some (.Name x p1)) pos) (qRetV i) := by
  refine ⟨PS_of (ps_ret (pe_var hN hv hd hcd)) fun D σ H ⟨w, ρ, e, gd, rl, wp⟩ => ?_⟩
  subst e
  unfold qRetV at wp
  split at wp
  · rename_i ds h
    obtain ⟨a, vs, h1, h2, h3, h4⟩ := rl.own i ds h
    exact ⟨_, h1, WpS.now gd wp a vs h3 h4 h2⟩
  · exact wp.elim
theorem ds_retN : DS X W (.Return none pos) qRetN := ⟨PS_of ps_retN fun D σ H ⟨w, ρ, e, gd, rl, wp⟩ => by subst e; exact WpS.now gd wp .non rep_non⟩
/-- if -/
def qIf (k : SB) (f g : SS) : SS := fun ρ st => (k ρ st).bind fun b st1 => if b = true then f ρ st1 else g ρ st1
theorem ds_if {c : Expr} (hc : DT X W c k) (ha : DSs X W b1 f) (hb : DSs X W b2 g) : DS X W (.If c b1 b2 pos) (qIf k f g) := by
  refine ⟨PS_of (ps_if hc.pt ha.ps hb.ps) fun D σ H ⟨w, ρ, e, gd, rl, wp⟩ => ?_⟩
  subst e
  refine ⟨w, ρ, rfl, gd, rl, (WpS.bindE wp).mono fun d w1 l1 g1 q => ?_⟩
  cases d with
  | true => exact iteT ⟨w1, ρ, rfl, g1, rl.leE gd l1, q⟩
  | false => exact iteF ⟨w1, ρ, rfl, g1, rl.leE gd l1, q⟩
end
end Ds
set_option Elab.async false
set_option linter.all false
set_option maxRecDepth 100000
set_option maxHeartbeats 1000000
set_option autoImplicit false
/-! DsI: lists rewritten: one's own, shared; sharing, freezing. -/
namespace Ds
open PySem PySem.Spec PyProof.Rows L2

/-! ### a list of one's own is rewritten -/
def Wd.put (w : Wd) (a : Addr) (vs : List V) : Wd := { w with H := upd w.H a (.lst vs) }
section
variable {K : PySem.W.Frag} {w w' : Wd} {a : Addr} {us vs : List V} {ds : List D} {ρ : En} {σ : L2.St}
theorem put_lef (o : w.O a) (e : w.H a = some (.lst us)) : LeF w (w.put a vs) where
  mu := fun _ _ => rfl
  len := Nat.le_refl _
  pp := rfl
  keep := fun b u h n m => by
    have ne : b ≠ a := fun z => m (by rw [z]; exact o)
    exact ⟨by show upd w.H a _ b = _; rw [upd_ne ne]; exact h, n, m⟩
  dom := fun b u h => by
    by_cases z : b = a
    · subst z; exact ⟨_, upd_same⟩
    · exact ⟨u, by show upd w.H a _ b = _; rw [upd_ne z]; exact h⟩
  liv := fun _ o h => ⟨o, h⟩
theorem upd_lst {H : Hp} {b : Addr} {xs : List V} {o : HO} (e : upd H a (.lst vs) b = some o) : (b = a ∧ o = .lst vs) ∨ (b ≠ a ∧ H b = some o) := by
  by_cases z : b = a
  · subst z
    rw [upd_same] at e
    exact .inl ⟨rfl, (Option.some.inj e).symm⟩
  · rw [upd_ne z] at e
    exact .inr ⟨z, e⟩
theorem put_good (g : Good K w) (o : w.O a) (e : w.H a = some (.lst us)) (z : vs.length ≤ sizeLine) : Good K (w.put a vs) := by
  have l := put_lef (vs := vs) o e
  refine ⟨g.inj, fun n es h => ?_, g.mo, fun b q => ?_, fun b q => ?_, fun b xs h => ?_, fun b xs h => ?_⟩
  · obtain ⟨xs, h1, r⟩ := g.at_ n es h
    have ne : w.μ n ≠ a := fun z => (g.mo _ ⟨n, _, h, rfl⟩).1 (by rw [z]; exact o)
    exact ⟨xs, (upd_ne ne).trans h1, RepL.leF g l _ _ r⟩
  · obtain ⟨⟨xs, h⟩, n⟩ := g.ow b q
    by_cases c : b = a
    · subst c; exact ⟨⟨vs, upd_same⟩, n⟩
    · exact ⟨⟨xs, by show upd w.H a _ b = _; rw [upd_ne c]; exact h⟩, n⟩
  · obtain ⟨u, h⟩ := g.pr b q
    obtain ⟨u', h'⟩ := l.dom b u h
    exact ⟨u', h'⟩
  · rcases upd_lst (xs := xs) h with ⟨_, h⟩ | ⟨_, h⟩
    · cases h; exact z
    · exact g.szl b xs h
  · rcases upd_lst (xs := xs) h with ⟨_, h⟩ | ⟨_, h⟩
    · cases h
    · exact g.szt b xs h
theorem put_rel {G : Gc} (g : Good G.K w) {i : Nat} {es : List D} (rl : RelEn G w ρ σ) (hi : ρ[i]? = some (some (.own es))) (ha : σ[i]? = some (some (.ref a))) (o : w.O a) (e : w.H a = some (.lst us)) (r : RepL G.K w ds vs) :
    RelEn G (w.put a vs) (ρ.set i (some (.own ds))) σ := by
  have l := put_lef (vs := vs) o e
  have il : i < ρ.length := (List.getElem?_eq_some_iff.mp hi).1
  refine ⟨by rw [List.length_set]; exact rl.len, fun j d h => ?_, fun j fs h => ?_, fun j k fs gs b h1 h2 h3 h4 => ?_, fun j x h => ?_⟩
  · rcases set_get h with ⟨rfl, q⟩ | ⟨ne, q⟩
    · cases q
    · obtain ⟨v, h1, h2⟩ := rl.val j d q
      exact ⟨v, h1, Rep.leF g l _ _ h2⟩
  · rcases set_get h with ⟨rfl, q⟩ | ⟨ne, q⟩
    · cases q
      exact ⟨a, vs, ha, o, upd_same, RepL.leF g l _ _ r⟩
    · obtain ⟨b, xs, h1, h2, h3, h4⟩ := rl.own j fs q
      have nb : b ≠ a := fun z => by
        subst z
        exact ne (rl.sep i j es fs b hi q ha h1)
      exact ⟨b, xs, h1, h2, by show upd w.H a _ b = _; rw [upd_ne nb]; exact h3, RepL.leF g l _ _ h4⟩
  · have f1 : ∃ fs', ρ[j]? = some (some (.own fs')) := by
      rcases set_get h1 with ⟨rfl, q⟩ | ⟨ne, q⟩
      · exact ⟨es, hi⟩
      · exact ⟨fs, q⟩
    have f2 : ∃ fs', ρ[k]? = some (some (.own fs')) := by
      rcases set_get h2 with ⟨rfl, q⟩ | ⟨ne, q⟩
      · exact ⟨es, hi⟩
      · exact ⟨gs, q⟩
    obtain ⟨_, f1⟩ := f1
    obtain ⟨_, f2⟩ := f2
    exact rl.sep j k _ _ b f1 f2 h3 h4
  · rcases set_get h with ⟨rfl, q⟩ | ⟨ne, q⟩
    · cases q
    · obtain ⟨b, c, d, h1, h2, h3⟩ := rl.exn j x q
      exact ⟨b, c, d, h1, h2, h3.leF g l⟩
/-- a shared list is rewritten -/
def Wd.putR (w : Wd) (n : Nat) (ds : List D) (vs : List V) : Wd := { w with st := w.st.set n (some (.lst ds)), H := upd w.H (w.μ n) (.lst vs) }
theorem putR_get {n m : Nat} {mo : MO} {es : List D} (e : w.st[n]? = some (some (.lst es))) (h : (w.st.set n (some (MO.lst ds)))[m]? = some (some mo)) : ∃ mo', w.st[m]? = some (some mo') := by
  rcases set_get h with ⟨rfl, _⟩ | ⟨_, q⟩
  · exact ⟨_, e⟩
  · exact ⟨mo, q⟩
theorem putR_ml {n : Nat} {es : List D} (e : w.st[n]? = some (some (.lst es))) {b : Addr} (h : (w.putR n ds vs).Ml b) : w.Ml b := by
  obtain ⟨m, mo, h1, rfl⟩ := h
  obtain ⟨mo', h2⟩ := putR_get e h1
  exact ⟨m, mo', h2, rfl⟩
theorem putR_le {n : Nat} {es : List D} (e : w.st[n]? = some (some (.lst es))) : LeE w (w.putR n ds vs) where
  mu := fun _ _ => rfl
  len := by show w.st.length ≤ (w.st.set _ _).length; rw [List.length_set]; exact Nat.le_refl _
  pp := rfl
  keep := fun b u h m => by
    have ne : b ≠ w.μ n := fun z => m ⟨n, _, e, z.symm⟩
    exact ⟨by show upd w.H _ _ b = _; rw [upd_ne ne]; exact h, fun z => m (putR_ml e z)⟩
  own := fun _ h => h
  ofr := fun _ _ _ _ h => h
  dom := fun b u h => by
    by_cases z : b = w.μ n
    · subst z; exact ⟨_, upd_same⟩
    · exact ⟨u, by show upd w.H _ _ b = _; rw [upd_ne z]; exact h⟩
  liv := fun m mo h => by
    by_cases z : n = m
    · subst z
      exact ⟨_, List.getElem?_set_self (List.getElem?_eq_some_iff.mp h).1⟩
    · exact ⟨mo, by show (w.st.set n _)[m]? = _; rw [List.getElem?_set_ne z]; exact h⟩
theorem putR_good (g : Good K w) {n : Nat} {es : List D} (e : w.st[n]? = some (some (.lst es))) (r : RepL K w ds vs) (z : vs.length ≤ sizeLine) : Good K (w.putR n ds vs) := by
  have l := putR_le (ds := ds) (vs := vs) e
  refine ⟨fun m1 m2 x y h1 h2 q => ?_, fun m fs h => ?_, fun b q => g.mo b (putR_ml e q), fun b q => ?_, fun b q => ?_, fun b xs h => ?_, fun b xs h => ?_⟩
  · obtain ⟨_, h1⟩ := putR_get e h1
    obtain ⟨_, h2⟩ := putR_get e h2
    exact g.inj m1 m2 _ _ h1 h2 q
  · have h' : (w.st.set n (some (MO.lst ds)))[m]? = some (some (.lst fs)) := h
    rcases set_get h' with ⟨rfl, q⟩ | ⟨ne, q⟩
    · cases q
      exact ⟨vs, upd_same, r.leE g l⟩
    · obtain ⟨xs, h1, h2⟩ := g.at_ m fs q
      have nb : w.μ m ≠ w.μ n := fun z => ne (g.inj m n _ _ q e z).symm
      exact ⟨xs, (upd_ne nb).trans h1, h2.leE g l⟩
  · obtain ⟨⟨xs, h⟩, p⟩ := g.ow b q
    have nb : b ≠ w.μ n := fun z => (g.mo (w.μ n) ⟨n, _, e, rfl⟩).1 (by rw [← z]; exact q)
    exact ⟨⟨xs, by show upd w.H _ _ b = _; rw [upd_ne nb]; exact h⟩, p⟩
  · obtain ⟨u, h⟩ := g.pr b q
    exact l.dom b u h
  · rcases upd_lst (xs := xs) h with ⟨_, h⟩ | ⟨_, h⟩
    · cases h; exact z
    · exact g.szl b xs h
  · rcases upd_lst (xs := xs) h with ⟨_, h⟩ | ⟨_, h⟩
    · cases h
    · exact g.szt b xs h
/-- a list that was just made is shared -/
def Wd.shr (w : Wd) (a : Addr) (ds : List D) : Wd := { w with μ := fun n => if n = w.st.length then a else w.μ n, st := w.st ++ [some (.lst ds)] }
theorem shr_ml {b : Addr} (h : (w.shr a ds).Ml b) : b = a ∨ w.Ml b := by
  obtain ⟨m, mo, h1, h2⟩ := h
  by_cases z : m < w.st.length
  · have h1' : (w.st ++ [some (MO.lst ds)])[m]? = some (some mo) := h1
    rw [List.getElem?_append_left z] at h1'
    refine .inr ⟨m, mo, h1', ?_⟩
    rw [← h2]
    show _ = if m = w.st.length then a else w.μ m
    rw [if_neg (Nat.ne_of_lt z)]
  · have hl : m < (w.st ++ [some (MO.lst ds)]).length := (List.getElem?_eq_some_iff.mp h1).1
    rw [List.length_append, List.length_singleton] at hl
    have e : m = w.st.length := by omega
    subst e
    refine .inl ?_
    rw [← h2]
    show (if w.st.length = w.st.length then a else _) = a
    rw [if_pos rfl]
theorem shr_ok {w0 : Wd} (g0 : Good K w0) (l : LeE w0 w) (m : Made K w0 w a ds vs) : LeE w0 (w.shr a ds) ∧ Good K (w.shr a ds) ∧ Rep K (w.shr a ds) (.ref w.st.length) (.ref a) := by
  have oa : (w.plus a).O a := .inr rfl
  have nml : ¬ w.Ml a := fun z => (m.good.mo a z).1 oa
  have npa : ¬ w.P a := (m.good.ow a oa).2
  have lp : ∀ n, n < w.st.length → (w.shr a ds).μ n = w.μ n := fun n h => by
    show (if n = w.st.length then a else w.μ n) = _
    rw [if_neg (Nat.ne_of_lt h)]
  have get : ∀ {n : Nat} {x : MO}, (w.st ++ [some (MO.lst ds)])[n]? = some (some x) → (n < w.st.length ∧ w.st[n]? = some (some x)) ∨ (n = w.st.length ∧ x = .lst ds) := fun {n x} h => by
    by_cases z : n < w.st.length
    · rw [List.getElem?_append_left z] at h; exact .inl ⟨z, h⟩
    · have hl := (List.getElem?_eq_some_iff.mp h).1
      rw [List.length_append, List.length_singleton] at hl
      have e : n = w.st.length := by omega
      subst e
      rw [List.getElem?_append_right (Nat.le_refl _), Nat.sub_self] at h
      exact .inr ⟨rfl, by simpa using h.symm⟩
  have mua : (w.shr a ds).μ w.st.length = a := if_pos rfl
  -- what stands in w stands on: the new list is no part of it
  have lf : LeF (w.plus a) (w.shr a ds) := ⟨lp, by show _ ≤ (w.st ++ _).length; rw [List.length_append]; exact Nat.le_add_right _ _, rfl, fun b u h n o => ⟨h, fun z => by
      rcases shr_ml z with z | z
      · exact o (.inr z)
      · exact n z, fun z => o (.inl z)⟩, fun b u h => ⟨u, h⟩, fun n mo h => ⟨mo, by
      show (w.st ++ _)[n]? = _
      have h' : w.st[n]? = some (some mo) := h
      rw [List.getElem?_append_left (List.getElem?_eq_some_iff.mp h').1]; exact h'⟩⟩
  refine ⟨⟨fun n h => (lp n (Nat.lt_of_lt_of_le h l.len)).trans (l.mu n h), Nat.le_trans l.len lf.len, l.pp, fun b u h n => ?_, l.own, l.ofr, l.dom, fun n mo h => ?_⟩, ⟨fun n1 n2 x y h1 h2 q => ?_, fun n fs h => ?_, fun b q => ?_, fun b q => m.good.ow b (.inl q) , m.good.pr, m.good.szl, m.good.szt⟩, ?_⟩
  · obtain ⟨h1, h2⟩ := l.keep b u h n
    refine ⟨h1, fun z => ?_⟩
    rcases shr_ml z with z | z
    · subst z; rw [m.old] at h; cases h
    · exact h2 z
  · obtain ⟨mo', h'⟩ := l.liv n mo h
    exact lf.liv n mo' h'
  · rcases get h1 with ⟨z1, h1⟩ | ⟨rfl, _⟩
    · rcases get h2 with ⟨z2, h2⟩ | ⟨rfl, _⟩
      · rw [lp n1 z1, lp n2 z2] at q
        exact m.good.inj n1 n2 _ _ h1 h2 q
      · rw [lp n1 z1, mua] at q
        exact (nml ⟨n1, _, h1, q⟩).elim
    · rcases get h2 with ⟨z2, h2⟩ | ⟨rfl, _⟩
      · rw [lp n2 z2, mua] at q
        exact (nml ⟨n2, _, h2, q.symm⟩).elim
      · rfl
  · rcases get h with ⟨z1, h1⟩ | ⟨rfl, e⟩
    · obtain ⟨xs, h3, h4⟩ := m.good.at_ n fs h1
      exact ⟨xs, by rw [lp n z1]; exact h3, RepL.leF m.good lf _ _ h4⟩
    · cases e
      exact ⟨vs, by rw [mua]; exact m.at_, RepL.leF m.good lf _ _ m.rep⟩
  · rcases shr_ml q with q | q
    · subst q; exact ⟨m.no, npa⟩
    · exact ⟨fun z => (m.good.mo b q).1 (.inl z), (m.good.mo b q).2⟩
  · unfold Rep
    exact ⟨by show _ < (w.st ++ _).length; rw [List.length_append, List.length_singleton]; omega, by rw [mua]⟩
end

section
variable {X : Cx} {W : WX} {e a b o v : Expr} {es : List Expr} {f g : SE} {fl : SL} {pos p1 p2 p3 apos cpos : Pos}
/-- a new list, shared from the start -/
def sNew (fl : SL) : SE := fun ρ st => (fl ρ st).bind fun ds st1 => .ok (.ref st1.length) (st1 ++ [some (.lst ds)])
theorem de_new (he : DO X W e fl) : DE X W e (sNew fl) := by
  refine ⟨PE_of he.pe fun σ H Q ⟨w, ρ, e, gd, rl, wp⟩ => ?_⟩
  subst e
  refine ⟨w, ρ, rfl, gd, rl, ?_⟩
  unfold sNew at wp
  cases hf : fl ρ w.st with
  | bad => rw [hf] at wp; exact wp.elim
  | err x ρ' st => rw [hf] at wp; exact wp
  | ok ds st1 =>
    rw [hf] at wp
    intro w1 l1 g1 e1 a vs m
    subst e1
    obtain ⟨l2, g2, r2⟩ := shr_ok gd l1 m
    exact wp _ l2 g2 rfl _ r2

/-! ### x.append(e), x.extend(e), x.remove(e): nothing is handed back -/
/-- what the method makes of a list's items -/
abbrev KM := List D → List D → Option (List D)
def MtD (r : V → List V → Hp → VK → Prop) (K : PySem.W.Frag) (k : KM) : Prop := ∀ (w : Wd) (a : Addr) (xs ys zs : List D) (vs us : List V) (Q : VK), Good K w → w.H a = some (.lst vs) → RepL K w xs vs → RepL K w ys us → k xs ys = some zs →
  (∀ ws, RepL K w zs ws → ws.length ≤ sizeLine → Q .non (upd w.H a (.lst ws))) → r (.ref a) us w.H Q
def kApp : KM := fun xs ys => match ys with
  | [y] => if xs.length < sizeLine then some (xs ++ [y]) else none
  | _ => none
theorem md_app {K : PySem.W.Frag} : MtD rAppend K kApp := by
  intro w a xs ys zs vs us Q g h r r2 hk q
  unfold kApp at hk
  split at hk
  · split at hk
    · rename_i y z
      cases hk
      obtain ⟨v, us', rfl, h1, h2⟩ := r2.uncons
      cases h2.nil_eq
      refine ⟨a, vs, v, rfl, rfl, h, by rw [r.length]; exact z, q _ (r.append (.cons h1 .nil)) ?_⟩
      rw [List.length_append, r.length, List.length_singleton]
      omega
    · cases hk
  · cases hk
def kExt : KM := fun xs ys => match ys with
  | [.lst ys] => if xs.length + ys.length ≤ sizeLine then some (xs ++ ys) else none
  | _ => none
theorem md_ext {K : PySem.W.Frag} : MtD rExtend K kExt := by
  intro w a xs ys zs vs us Q g h r r2 hk q
  unfold kExt at hk
  split at hk
  · split at hk
    · rename_i ys' z
      cases hk
      obtain ⟨v, us', rfl, h1, h2⟩ := r2.uncons
      cases h2.nil_eq
      obtain ⟨b, ws, rfl, hb, rb⟩ := h1.lst_eq
      have hz : vs.length + ws.length ≤ sizeLine := by rw [r.length, rb.length]; exact z
      exact ⟨a, b, vs, ws, rfl, rfl, h, hb, hz, q _ (r.append rb) (by rw [List.length_append]; exact hz)⟩
    · cases hk
  · cases hk
/-- .. of one's own -/
def qM (i : Nat) (k : KM) (fl : SL) : SS := fun ρ st => match ρ[i]? with
  | some (some (.own xs)) => (fl ρ st).bind fun ys st1 => (match k xs ys with
    | some zs => .ok (.nx (ρ.set i (some (.own zs)))) st1
    | none => .bad)
  | _ => .bad
theorem tyL {K : PySem.W.Frag} {H : Hp} {a : Addr} {vs : List V} (h : H a = some (.lst vs)) : tyV K "list" (.ref a) H := Or.inl ⟨rfl, _, Or.inl (Or.inl h)⟩
theorem ds_m {i : Nat} {x name : Str} {id : String} {r : V → List V → Hp → VK → Prop} {k : KM} (slot : Slot "list" name id) (hty : typeOf (.builtin id) = pure (.type "method_descriptor")) (hm : MtR X id r) (hd : MtD r X.K k)
    (ha : DA X W (e :: es) fl) (hN : X.N[i]? = some x := by rfl) (hv : Vis X.env.scope x := by first | exact Or.inl rfl | exact Or.inr (Or.inl rfl) | exact Or.inr (Or.inr rfl)) (hdb : (x == ("__debug__" : Str)) = false := by decide)
    (hcd : (x == ("__classdict__" : Str)) = false := by decide)
    (hbase : attributeBase (.Name x p1) name X.env (eval (.Name x p1) X.env) = eval (.Name x p1) X.env := by rfl)
    (hfew : ((backTo cpos (starEach (e :: es) X.env)).all (fun x => !x.1) && (backToKw cpos (keywordEach [] X.env)).all (fun x => x.1.isSome)
      && decide ((e :: es).length + ([] : List Keyword).length + (if ([] : List Keyword).isEmpty then 0 else 1) < 30)) = true := by rfl)
    (hline : (apos.endLine == cpos.line) = true := by rfl) (hs : starEach (e :: es) X.env = (false, eval e X.env) :: starEach es X.env := by rfl) (hplain : (backTo cpos (starEach es X.env)).any (·.1) = false := by rfl)
    (hsw : swapsWith (.Call (.Attribute (.Name x p1) name apos) (e :: es) [] cpos) none pos.line X.env = pure false := by rfl) :
    DS X W (.Expr (.Call (.Attribute (.Name x p1) name apos) (e :: es) [] cpos) pos) (qM i k fl) := by
  refine ⟨PS_of (ps_expr (pe_bm F.plainAttrs_list slot hty hm (pe_var hN hv hdb hcd) ha.pa hbase hfew hline hs hplain) hsw) fun D σ H ⟨w, ρ, e, gd, rl, wp⟩ => ?_⟩
  subst e
  unfold qM at wp
  split at wp
  · rename_i xs0 hx
    obtain ⟨a, us, h1, h2, h3, h4⟩ := rl.own i xs0 hx
    refine ⟨_, h1, tyL h3, w, ρ, rfl, gd, rl, (WpS.bindE wp).mono fun ys w1 l1 g1 q1 vs r => ?_⟩
    have rl1 := rl.leE gd l1
    split at q1
    · rename_i zs hz
      obtain ⟨a', us', h1', h2', h3', h4'⟩ := rl1.own i xs0 hx
      rw [h1] at h1'
      simp only [Option.some.injEq, V.ref.injEq] at h1'
      subst h1'
      refine hd w1 a xs0 ys zs us' vs _ g1 h3' h4' r hz fun ws rw' hw => ?_
      exact q1.at' (put_lef h2' h3') (put_good g1 h2' h3' hw) rfl σ (put_rel g1 rl1 hx h1 h2' h3' rw')
    · exact q1.elim
  · exact wp.elim
/-- .. of a shared list -/
def sM (k : KM) (f : SE) (fl : SL) : SE := fun ρ st => (f ρ st).bind fun d st1 => match d with
  | .ref n => (match st1[n]? with
    | some (some (.lst _)) => (fl ρ st1).bind fun ys st2 => (match st2[n]? with
      | some (some (.lst xs)) => (match k xs ys with
        | some zs => .ok .non (st2.set n (some (.lst zs)))
        | none => .bad)
      | _ => .bad)
    | _ => .bad)
  | _ => .bad
theorem wp_in {α β : Type} {G : Gc} {w : Wd} {o : Out α} {k : α → Sto → Out β} {P : β → Wd → Prop} {R : α → Wd → Prop} (h : WpE G W w (o.bind k) P) (f : ∀ a w', LeE w w' → Good G.K w' → WpE G W w' (k a w'.st) P → R a w') : WpE G W w o R := (WpE.bind h).mono f
theorem de_m {name : Str} {id : String} {r : V → List V → Hp → VK → Prop} {k : KM} (slot : Slot "list" name id) (hty : typeOf (.builtin id) = pure (.type "method_descriptor")) (hm : MtR X id r) (hd : MtD r X.K k)
    (ho : DE X W o f) (ha : DA X W (e :: es) fl)
    (hbase : attributeBase o name X.env (eval o X.env) = eval o X.env := by rfl)
    (hfew : ((backTo cpos (starEach (e :: es) X.env)).all (fun x => !x.1) && (backToKw cpos (keywordEach [] X.env)).all (fun x => x.1.isSome)
      && decide ((e :: es).length + ([] : List Keyword).length + (if ([] : List Keyword).isEmpty then 0 else 1) < 30)) = true := by rfl)
    (hline : (apos.endLine == cpos.line) = true := by rfl) (hs : starEach (e :: es) X.env = (false, eval e X.env) :: starEach es X.env := by rfl) (hplain : (backTo cpos (starEach es X.env)).any (·.1) = false := by rfl) :
    DE X W (.Call (.Attribute o name apos) (e :: es) [] cpos) (sM k f fl) := by
  refine ⟨PE_of (pe_bm F.plainAttrs_list slot hty hm ho.pe ha.pa hbase hfew hline hs hplain) fun σ H Q ⟨w, ρ, e, gd, rl, wp⟩ => ?_⟩
  subst e
  refine ⟨w, ρ, rfl, gd, rl, wp_in wp fun d w1 l1 g1 q1 v r => ?_⟩
  split at q1
  · rename_i n
    split at q1
    · rename_i xs0 hx
      have r' := r
      unfold Rep at r'
      obtain ⟨_, rfl⟩ := r'
      obtain ⟨us, h1, h2⟩ := g1.at_ n xs0 hx
      refine ⟨tyL h1, w1, ρ, rfl, g1, rl.leE gd l1, wp_in q1 fun ys w2 l2 g2 q2 vs rr => ?_⟩
      split at q2
      · rename_i xs hx2
        obtain ⟨us2, h3, h4⟩ := g2.at_ n xs hx2
        have em := l2.mu n (List.getElem?_eq_some_iff.mp hx).1
        split at q2
        · rename_i zs hz
          rw [← em]
          refine hd w2 (w2.μ n) xs ys zs us2 vs Q g2 h3 h4 rr hz fun ws rw' hw => ?_
          exact q2.at' (w' := w2.putR n zs ws) (putR_le hx2) (putR_good g2 hx2 rw' hw) rfl _ rep_non
        · exact q2.elim
      · exact q2.elim
    · exact q1.elim
  · exact q1.elim

/-! ### x.pop() -/
/-- t = x.pop(), x a list of one's own -/
def qPop (t : Tgt) (i : Nat) : SS := fun ρ st => match ρ[i]? with
  | some (some (.own xs)) => (match xs.getLast? with
    | some d => (match t.bind d (ρ.set i (some (.own xs.dropLast))) with
      | some ρ' => .ok (.nx ρ') st
      | none => .bad)
    | none => .bad)
  | _ => .bad
theorem last_get {α : Type} {xs : List α} : xs[xs.length - 1]? = xs.getLast? := List.getLast?_eq_getElem?.symm
theorem ds_pop {i : Nat} {x : Str} {t : Tgt} {tg : Expr} (hg : DG X tg t) (hN : X.N[i]? = some x := by rfl) (hv : Vis X.env.scope x := by first | exact Or.inl rfl | exact Or.inr (Or.inl rfl) | exact Or.inr (Or.inr rfl)) (hdb : (x == ("__debug__" : Str)) = false := by decide)
    (hcd : (x == ("__classdict__" : Str)) = false := by decide)
    (hbase : attributeBase (.Name x p1) "pop" X.env (eval (.Name x p1) X.env) = eval (.Name x p1) X.env := by rfl) (hline : (apos.endLine == cpos.line) = true := by rfl)
    (hs : swapsWithSole [tg] (.Call (.Attribute (.Name x p1) "pop" apos) [] [] cpos) pos.line X.env = pure false := by rfl) (hw : swappedStores [tg] (.Call (.Attribute (.Name x p1) "pop" apos) [] [] cpos) X.env = pure none := by rfl)
    (h1 : (assignEach [tg] X.env).map (·.2) = [assign tg X.env] := by rfl) :
    DS X W (.Assign [tg] (.Call (.Attribute (.Name x p1) "pop" apos) [] [] cpos) pos) (qPop t i) := by
  refine ⟨PS_of (ps_asg (pe_bm0 F.plainAttrs_list F.slot_list_pop F.type_list_pop (show MtR X "list.pop" rPop from mt_pop) (pe_var hN hv hdb hcd) hbase hline) hg.pg hs hw h1) fun D σ H ⟨w, ρ, e, gd, rl, wp⟩ => ?_⟩
  subst e
  unfold qPop at wp
  split at wp
  · rename_i xs hx
    obtain ⟨a, us, h1, h2, h3, h4⟩ := rl.own i xs hx
    split at wp
    · rename_i d hd
      rw [← last_get] at hd
      obtain ⟨v, hv1, hv2⟩ := h4.get hd
      rw [← h4.length] at hv1
      split at wp
      · rename_i ρ' hb
        have hz : us.dropLast.length ≤ sizeLine := by
          have := gd.szl a us h3
          rw [List.length_dropLast]; omega
        have l := put_lef (vs := us.dropLast) h2 h3
        have g' := put_good (vs := us.dropLast) gd h2 h3 hz
        refine ⟨_, h1, tyL h3, a, us, v, rfl, rfl, h3, hv1, ?_⟩
        exact tgt_ok t d v _ ρ' σ (w := w.put a us.dropLast) _ (put_rel gd rl hx h1 h2 h3 h4.dropLast) (Rep.leF gd l _ _ hv2) hb (wp.at' l g' rfl)
      · exact wp.elim
    · exact wp.elim
  · exact wp.elim
/-- x.pop() of a shared list -/
def popD (d : D) (st : Sto) : Out D := match d with
  | .ref n => (match st[n]? with
    | some (some (.lst xs)) => (match xs.getLast? with
      | some y => .ok y (st.set n (some (.lst xs.dropLast)))
      | none => .bad)
    | _ => .bad)
  | _ => .bad
theorem de_pop (ho : DE X W o f) (hbase : attributeBase o "pop" X.env (eval o X.env) = eval o X.env := by rfl) (hline : (apos.endLine == cpos.line) = true := by rfl) :
    DE X W (.Call (.Attribute o "pop" apos) [] [] cpos) (s1 popD f) := by
  refine ⟨PE_of (pe_bm0 F.plainAttrs_list F.slot_list_pop F.type_list_pop (show MtR X "list.pop" rPop from mt_pop) ho.pe hbase hline) fun σ H Q ⟨w, ρ, e, gd, rl, wp⟩ => ?_⟩
  subst e
  refine ⟨w, ρ, rfl, gd, rl, wp_in wp fun d w1 l1 g1 q1 v r => ?_⟩
  unfold popD at q1
  split at q1
  · rename_i n
    split at q1
    · rename_i xs hx
      split at q1
      · rename_i y hy
        have r' := r
        unfold Rep at r'
        obtain ⟨_, rfl⟩ := r'
        obtain ⟨us, h1, h2⟩ := g1.at_ n xs hx
        rw [← last_get] at hy
        obtain ⟨v, hv1, hv2⟩ := h2.get hy
        rw [← h2.length] at hv1
        have hz : us.dropLast.length ≤ sizeLine := by
          have := g1.szl _ us h1
          rw [List.length_dropLast]; omega
        have l2 := putR_le (ds := xs.dropLast) (vs := us.dropLast) hx
        exact ⟨tyL h1, _, us, v, rfl, rfl, h1, hv1, q1.at' (w' := w1.putR n xs.dropLast us.dropLast) l2 (putR_good g1 hx h2.dropLast hz) rfl _ (hv2.leE g1 l2)⟩
      · exact q1.elim
    · exact q1.elim
  · exact q1.elim

/-! ### x[i] = e -/
def setI (xs : List D) (i : D) (y : D) : Option (List D) := match i with
  | .int k => (match ixN xs.length k with
    | some j => some (xs.set j y)
    | none => none)
  | _ => none
/-- .. x a list of one's own -/
def qSetI (i : Nat) (fe g : SE) : SS := fun ρ st => (fe ρ st).bind fun y st1 => match ρ[i]? with
  | some (some (.own xs)) => (g ρ st1).bind fun k st2 => (match setI xs k y with
    | some zs => .ok (.nx (ρ.set i (some (.own zs)))) st2
    | none => .bad)
  | _ => .bad
theorem ds_setI {i : Nat} {x : Str} {fe : SE} {ep : Pos} (he : DE X W e fe) (hi : DE X W b g) (hN : X.N[i]? = some x := by rfl) (hv : Vis X.env.scope x := by first | exact Or.inl rfl | exact Or.inr (Or.inl rfl) | exact Or.inr (Or.inr rfl)) (hdb : (x == ("__debug__" : Str)) = false := by decide)
    (hcd : (x == ("__classdict__" : Str)) = false := by decide)
    (ha : ∀ v, assign (.Subscript (.Name x p1) b p2) X.env v = (do
      let ov ← holding [v] (eval (.Name x p1) X.env)
      let iv ← holding [v, ov] (eval b X.env)
      standAt p2
      holding [v, ov, iv] (setItem ov iv v)
      release [v, ov, iv] []) := by intro _; rfl)
    (hs : swapsWithSole [.Subscript (.Name x p1) b p2] e pos.line X.env = pure false := by rfl) (hw : swappedStores [.Subscript (.Name x p1) b p2] e X.env = pure none := by rfl)
    (h1 : (assignEach [.Subscript (.Name x p1) b p2] X.env).map (·.2) = [assign (.Subscript (.Name x p1) b p2) X.env] := by rfl) :
    DS X W (.Assign [.Subscript (.Name x p1) b p2] e pos) (qSetI i fe g) := by
  refine ⟨PS_of (ps_asg he.pe (pg_sub (pe_var hN hv hdb hcd) hi.pe set_list ha) hs hw h1) fun D σ H ⟨w, ρ, e, gd, rl, wp⟩ => ?_⟩
  subst e
  refine ⟨w, ρ, rfl, gd, rl, (WpS.bindE wp).mono fun y w1 l1 g1 q1 v r => ?_⟩
  have rl1 := rl.leE gd l1
  split at q1
  · rename_i xs hx
    obtain ⟨a, us, h1, h2, h3, h4⟩ := rl1.own i xs hx
    refine ⟨_, h1, w1, ρ, rfl, g1, rl1, (WpS.bindE q1).mono fun k w2 l2 g2 q2 kv rk => ?_⟩
    have rl2 := rl1.leE g1 l2
    split at q2
    · rename_i zs hz
      obtain ⟨a', us', h1', h2', h3', h4'⟩ := rl2.own i xs hx
      rw [h1] at h1'
      simp only [Option.some.injEq, V.ref.injEq] at h1'
      subst h1'
      unfold setI at hz
      split at hz
      · rename_i k'
        split at hz
        · rename_i j hj
          cases hz
          have rw' := h4'.set j (r.leE g1 l2)
          refine ⟨a, us', k', j, rfl, rk.int_eq, h3', by rw [h4'.length]; exact hj, ?_⟩
          exact q2.at' (put_lef h2' h3') (put_good g2 h2' h3' (by rw [List.length_set]; exact g2.szl _ _ h3')) rfl σ (put_rel g2 rl2 hx h1 h2' h3' rw')
        · cases hz
      · cases hz
    · exact q2.elim
  · exact q1.elim
/-- .. x a shared list -/
def qSetR (fe f g : SE) : SS := fun ρ st => (fe ρ st).bind fun y st1 => (f ρ st1).bind fun d st2 => (g ρ st2).bind fun k st3 => match d with
  | .ref n => (match st3[n]? with
    | some (some (.lst xs)) => (match setI xs k y with
      | some zs => .ok (.nx ρ) (st3.set n (some (.lst zs)))
      | none => .bad)
    | _ => .bad)
  | _ => .bad
theorem ds_setR {fe : SE} (he : DE X W e fe) (ho : DE X W o f) (hi : DE X W b g)
    (ha : ∀ v, assign (.Subscript o b p2) X.env v = (do
      let ov ← holding [v] (eval o X.env)
      let iv ← holding [v, ov] (eval b X.env)
      standAt p2
      holding [v, ov, iv] (setItem ov iv v)
      release [v, ov, iv] []) := by intro _; rfl)
    (hs : swapsWithSole [.Subscript o b p2] e pos.line X.env = pure false := by rfl) (hw : swappedStores [.Subscript o b p2] e X.env = pure none := by rfl)
    (h1 : (assignEach [.Subscript o b p2] X.env).map (·.2) = [assign (.Subscript o b p2) X.env] := by rfl) :
    DS X W (.Assign [.Subscript o b p2] e pos) (qSetR fe f g) := by
  refine ⟨PS_of (ps_asg he.pe (pg_sub ho.pe hi.pe set_list ha) hs hw h1) fun D σ H ⟨w, ρ, e, gd, rl, wp⟩ => ?_⟩
  subst e
  refine ⟨w, ρ, rfl, gd, rl, (WpS.bindE wp).mono fun y w1 l1 g1 q1 v r => ⟨w1, ρ, rfl, g1, rl.leE gd l1, (WpS.bindE q1).mono fun d w2 l2 g2 q2 dv rd => ⟨w2, ρ, rfl, g2, rl.leE gd (l1.trans l2), (WpS.bindE q2).mono fun k w3 l3 g3 q3 kv rk => ?_⟩⟩⟩
  split at q3
  · rename_i n
    split at q3
    · rename_i xs hx
      split at q3
      · rename_i zs hz
        have rd' := rd.leE g2 l3
        unfold Rep at rd'
        obtain ⟨_, rfl⟩ := rd'
        obtain ⟨us, h3, h4⟩ := g3.at_ n xs hx
        unfold setI at hz
        split at hz
        · rename_i k'
          split at hz
          · rename_i j hj
            cases hz
            have rw' := h4.set j (r.leE g1 (l2.trans l3))
            have le := putR_le (ds := xs.set j y) (vs := us.set j v) hx
            refine ⟨_, us, k', j, rfl, rk.int_eq, h3, by rw [h4.length]; exact hj, ?_⟩
            exact q3.at' (w' := w3.putR n (xs.set j y) (us.set j v)) le.toF (putR_good g3 hx rw' (by rw [List.length_set]; exact g3.szl _ _ h3)) rfl σ (rl.leE gd (l1.trans (l2.trans (l3.trans le))))
          · cases hz
        · cases hz
      · exact q3.elim
    · exact q3.elim
  · exact q3.elim
/-- one's own list is frozen: from here on it is a value -/
def qFrz (i : Nat) (g : SS) : SS := fun ρ st => match ρ[i]? with
  | some (some (.own xs)) => g (ρ.set i (some (.val (.lst xs)))) st
  | _ => .bad
def Wd.drop (w : Wd) (a : Addr) : Wd := { w with O := fun b => w.O b ∧ b ≠ a }
theorem drop_lef {w : Wd} {a : Addr} : LeF w (w.drop a) := ⟨fun _ _ => rfl, Nat.le_refl _, rfl, fun b u h n m => ⟨h, n, fun z => m z.1⟩, fun _ o h => ⟨o, h⟩, fun _ o h => ⟨o, h⟩⟩
theorem dss_frz {i : Nat} {ss : List Stmt} {g : SS} (h : DSs X W ss g) : DSs X W ss (qFrz i g) := by
  refine ⟨PSs_of h.ps fun D σ H ⟨w, ρ, e, gd, rl, wp⟩ => ?_⟩
  subst e
  unfold qFrz at wp
  split at wp
  · rename_i xs hx
    obtain ⟨a, us, h1, h2, h3, h4⟩ := rl.own i xs hx
    have l := drop_lef (w := w) (a := a)
    have il : i < ρ.length := (List.getElem?_eq_some_iff.mp hx).1
    have rf := RepL.leF gd l _ _ h4
    refine ⟨w.drop a, _, rfl, ⟨gd.inj, fun n es h => ?_, fun b q => ⟨fun z => (gd.mo b q).1 z.1, (gd.mo b q).2⟩, fun b q => gd.ow b q.1, gd.pr, gd.szl, gd.szt⟩, ?_, WpS.le l wp⟩
    · obtain ⟨ws, q1, q2⟩ := gd.at_ n es h
      exact ⟨ws, q1, RepL.leF gd l _ _ q2⟩
    · have rl' : RelEn (gc X) (w.drop a) (ρ.set i none) σ := ⟨by rw [List.length_set]; exact rl.len, fun j d q => by
          rcases set_get q with ⟨_, z⟩ | ⟨ne, z⟩
          · cases z
          · obtain ⟨v, q1, q2⟩ := rl.val j d z
            exact ⟨v, q1, Rep.leF gd l _ _ q2⟩, fun j es q => by
          rcases set_get q with ⟨_, z⟩ | ⟨ne, z⟩
          · cases z
          · obtain ⟨b, ws, q1, q2, q3, q4⟩ := rl.own j es z
            exact ⟨b, ws, q1, ⟨q2, fun y => by subst y; exact ne (rl.sep i j _ _ _ hx z h1 q1)⟩, q3, RepL.leF gd l _ _ q4⟩, fun j k es fs b q1 q2 q3 q4 => by
          rcases set_get q1 with ⟨_, z1⟩ | ⟨_, z1⟩
          · cases z1
          rcases set_get q2 with ⟨_, z2⟩ | ⟨_, z2⟩
          · cases z2
          exact rl.sep j k _ _ b z1 z2 q3 q4, fun j x q => by
          rcases set_get q with ⟨_, z⟩ | ⟨ne, z⟩
          · cases z
          · obtain ⟨b, c, d, h1, h2, h3⟩ := rl.exn j x z
            exact ⟨b, c, d, h1, h2, h3.leF gd l⟩⟩
      have rep : Rep X.K (w.drop a) (.lst xs) (.ref a) := by
        unfold Rep
        exact ⟨a, us, rfl, h3, fun z => (gd.mo a z).1 h2, fun z => z.2 rfl, (gd.ow a h2).2, rf⟩
      have q := rl'.setVal (i := i) rep (by rw [List.length_set]; exact il)
      rw [List.set_set] at q
      have sl : i < σ.length := by rw [← rl.len]; exact il
      have es : σ.set i (some (.ref a)) = σ := by
        refine List.ext_getElem? fun j => ?_
        by_cases z : i = j
        · subst z; rw [List.getElem?_set_self sl]; exact h1.symm
        · rw [List.getElem?_set_ne z]
      rw [es] at q
      exact q
  · exact wp.elim
end
end Ds
set_option Elab.async false
set_option linter.all false
set_option maxRecDepth 100000
set_option maxHeartbeats 1000000
set_option autoImplicit false
/-! DsJ: what a loop walks; for; while. -/
namespace Ds
open PySem PySem.Spec PyProof.Rows L2

/-- what is walked: items that stay, or a shared list as it stands at each turn -/
inductive IT where
  | fix (ds : List D) | live (n : Nat)
def IT.now : IT → Sto → Option (List D)
  | .fix ds, _ => some ds
  | .live n, st => match st[n]? with
    | some (some (.lst ds)) => some ds
    | _ => none
@[simp] theorem IT.now_fix {ds : List D} {st : Sto} : (IT.fix ds).now st = some ds := Eq.trans (Eq.refl _) (Eq.refl _)
/-- the iterator answers so from w0 on -/
def ItOk (L : Wd → Wd → Prop) (G : Gc) (w0 : Wd) (J : It) (it : IT) : Prop := ∀ w, L w0 w → Good G.K w → ∀ (i : Nat) (ds : List D), it.now w.st = some ds →
  match ds[i]? with
  | none => J.stop i w.H
  | some d => J.go i w.H ∧ ∀ x H', J.yld i w.H x H' → ∃ w', LeE w w' ∧ Good G.K w' ∧ w'.st = w.st ∧ w'.O = w.O ∧ w'.H = H' ∧ Rep G.K w' d x
abbrev SI := En → Sto → Out IT
def tI (L : Wd → Wd → Prop) (G : Gc) (W : WX) (f : SI) : TI := fun σ H R => ∃ (w : Wd) (ρ : En), w.H = H ∧ Good G.K w ∧ RelEn G w ρ σ ∧ WpE G W w (f ρ w.st) fun it w' => ∀ J, ItOk L G w' J it → R J w'.H
/-- .. for a loop's body; for a comprehension's -/
structure DI (X : Cx) (W : WX) (tg e : Expr) (f : SI) : Prop where pi : PI X tg e (tI LeF (gc X) W f)
structure DJ (X : Cx) (W : WX) (tg e : Expr) (f : SI) : Prop where pi : PI X tg e (tI LeE (gc X) W f)
theorem PI_of {X : Cx} {tg e : Expr} {t t' : TI} (h : PI X tg e t) (k : ∀ σ H Q, t' σ H Q → t σ H Q) : PI X tg e t' := ⟨fun pins s σ H Q I q => h.run pins s σ H Q I (k σ H Q q)⟩
section
variable {X : Cx} {W : WX} {tg e a b c : Expr} {es : List Expr} {f g : SE} {fl : SL} {fi : SI} {pos p p1 p2 : Pos}
theorem DI.dj (h : DI X W tg e fi) : DJ X W tg e fi := ⟨PI_of h.pi fun σ H R ⟨w, ρ, e, gd, rl, wp⟩ => ⟨w, ρ, e, gd, rl, wp.mono fun it w' l g q J ok => q J fun w1 l1 => ok w1 l1.toF⟩⟩
theorem it_tup {L : Wd → Wd → Prop} (hL : ∀ {w w'}, L w w' → LeF w w') {G : Gc} {w : Wd} {a : Addr} {vs : List V} {ds : List D} (g : Good G.K w) (t : TupAt G.K w.H a vs) (r : RepL G.K w ds vs) : ItOk L G w (Itt G.K a) (.fix ds) := by
  intro w1 l1 g1 i ds' e
  cases e
  have t1 := (t.leF g (hL l1)).sq
  have r1 := RepL.leF g (hL l1) _ _ r
  cases h : ds[i]? with
  | none => exact ⟨vs, t1, by rw [r1.length]; exact List.getElem?_eq_none_iff.mp h⟩
  | some d =>
    obtain ⟨v, h1, h2⟩ := r1.get h
    exact ⟨⟨vs, v, t1, h1⟩, fun x H' ⟨e, y⟩ => ⟨w1, .refl _, g1, rfl, rfl, e.symm, by
      have := (y vs t1).symm.trans h1
      cases this
      exact h2⟩⟩
theorem it_lst {L : Wd → Wd → Prop} {G : Gc} {w : Wd} {a : Addr} {ds : List D} (st : ∀ w', L w w' → Good G.K w' → ∃ vs, SqL G.K w'.H a vs ∧ RepL G.K w' ds vs) : ItOk L G w (Itl G.K a) (.fix ds) := by
  intro w1 l1 g1 i ds' e
  cases e
  obtain ⟨vs, t1, r1⟩ := st w1 l1 g1
  cases h : ds[i]? with
  | none => exact ⟨vs, t1, by rw [r1.length]; exact List.getElem?_eq_none_iff.mp h⟩
  | some d =>
    obtain ⟨v, h1, h2⟩ := r1.get h
    exact ⟨⟨vs, v, t1, h1⟩, fun x H' ⟨e, y⟩ => ⟨w1, .refl _, g1, rfl, rfl, e.symm, by
      have := (y vs t1).symm.trans h1
      cases this
      exact h2⟩⟩
theorem it_live {L : Wd → Wd → Prop} (hL : ∀ {w w'}, L w w' → LeF w w') {G : Gc} {w : Wd} {n : Nat} (hn : n < w.st.length) : ItOk L G w (Itl G.K (w.μ n)) (.live n) := by
  intro w1 l1 g1 i ds' e
  unfold IT.now at e
  simp only at e
  split at e
  · rename_i ds hd
    cases e
    obtain ⟨vs, h1, r1⟩ := g1.at_ n _ hd
    rw [(hL l1).mu n hn] at h1
    have t1 : SqL G.K w1.H (w.μ n) vs := Or.inl (Or.inl h1)
    cases h : ds'[i]? with
    | none => exact ⟨vs, t1, by rw [r1.length]; exact List.getElem?_eq_none_iff.mp h⟩
    | some d =>
      obtain ⟨v, h1, h2⟩ := r1.get h
      exact ⟨⟨vs, v, t1, h1⟩, fun x H' ⟨e, y⟩ => ⟨w1, .refl _, g1, rfl, rfl, e.symm, by
        have := (y vs t1).symm.trans h1
        cases this
        exact h2⟩⟩
  · cases e
def chs (x : Str) : List D := x.cps.toList.map fun c => .str ⟨#[c]⟩
theorem it_str {L : Wd → Wd → Prop} {G : Gc} {w : Wd} {x : Str} : ItOk L G w (Its x) (.fix (chs x)) := by
  intro w1 l1 g1 i ds' e
  cases e
  have hl : (chs x).length = x.cps.size := by unfold chs; simp
  cases h : (chs x)[i]? with
  | none =>
    have := List.getElem?_eq_none_iff.mp h
    rw [hl] at this
    exact this
  | some d =>
    have hi := (List.getElem?_eq_some_iff.mp h).1
    rw [hl] at hi
    refine ⟨hi, fun v H' ⟨e, c, hc, hv⟩ => ⟨w1, .refl _, g1, rfl, rfl, e.symm, ?_⟩⟩
    unfold chs at h
    rw [List.getElem?_map, Array.getElem?_toList, hc] at h
    cases h
    subst hv
    exact rep_str
def itD (d : D) (st : Sto) : Out IT := match d with
  | .tup xs => .ok (.fix xs) st
  | .lst xs => .ok (.fix xs) st
  | .fz xs => .ok (.fix xs) st
  | .str x => .ok (.fix (chs x)) st
  | .ref n => (match st[n]? with
    | some (some (.lst _)) => .ok (.live n) st
    | _ => .bad)
  | _ => .bad
def sIt (f : SE) : SI := fun ρ st => (f ρ st).bind itD
theorem sq_lst {G : Gc} {w w' : Wd} {ds : List D} {v : V} (h : Rep G.K w (.lst ds) v) (g : Good G.K w) (l : LeF w w') : ∃ a vs, v = .ref a ∧ SqL G.K w'.H a vs ∧ RepL G.K w' ds vs := by
  obtain ⟨a, vs, e, h1, r⟩ := (Rep.leF g l _ _ h).lst_eq
  exact ⟨a, vs, e, Or.inl (Or.inl h1), r⟩
/-- a value is walked -/
theorem di_of (he : DE X W e f) : DI X W tg e (sIt f) := by
  refine ⟨⟨fun pins s σ H R I ⟨w, ρ, e0, gd, rl, wp⟩ => ?_⟩⟩
  subst e0
  unfold sIt at wp
  cases hf : f ρ w.st with
  | bad => rw [hf] at wp; exact wp.elim
  | err x ρ' st =>
    refine (pi_list he.pe).run pins s σ w.H R I ⟨w, ρ, rfl, gd, rl, ?_⟩
    rw [hf] at wp ⊢
    exact wp
  | ok d st =>
    rw [hf] at wp
    rw [Out.bind_ok] at wp
    unfold itD at wp
    split at wp
    · rename_i xs
      refine (pi_tup he.pe).run pins s σ w.H R I ⟨w, ρ, rfl, gd, rl, ?_⟩
      rw [hf]
      intro w' l' g' e' v r
      obtain ⟨a, vs, rfl, t, rr⟩ := r.tup_eq
      exact ⟨a, rfl, ⟨vs, t.sq⟩, wp w' l' g' e' _ (it_tup id g' t rr)⟩
    · rename_i xs
      refine (pi_list he.pe).run pins s σ w.H R I ⟨w, ρ, rfl, gd, rl, ?_⟩
      rw [hf]
      intro w' l' g' e' v r
      obtain ⟨a, vs, rfl, t, rr⟩ := r.lst_eq
      refine ⟨a, rfl, ⟨vs, Or.inl (Or.inl t)⟩, wp w' l' g' e' _ (it_lst fun w2 l2 g2 => ?_)⟩
      obtain ⟨b, us, e, q1, q2⟩ := sq_lst r g' l2
      cases e
      exact ⟨us, q1, q2⟩
    · rename_i xs
      refine (pi_list he.pe).run pins s σ w.H R I ⟨w, ρ, rfl, gd, rl, ?_⟩
      rw [hf]
      intro w' l' g' e' v r
      obtain ⟨a, vs, rfl, t, rr⟩ := r.fz_eq
      refine ⟨a, rfl, ⟨vs, t.sq⟩, wp w' l' g' e' _ (it_lst fun w2 l2 g2 => ?_)⟩
      obtain ⟨b, us, e, q1, q2⟩ := (Rep.leF g' l2 _ _ r).fz_eq
      cases e
      exact ⟨us, q1.sq, q2⟩
    · rename_i x
      refine (pi_str he.pe).run pins s σ w.H R I ⟨w, ρ, rfl, gd, rl, ?_⟩
      rw [hf]
      intro w' l' g' e' v r
      exact ⟨x, r.str_eq, wp w' l' g' e' _ it_str⟩
    · rename_i n
      split at wp
      · rename_i xs hx
        refine (pi_list he.pe).run pins s σ w.H R I ⟨w, ρ, rfl, gd, rl, ?_⟩
        rw [hf]
        intro w' l' g' e' v r
        subst e'
        unfold Rep at r
        obtain ⟨r1, rfl⟩ := r
        obtain ⟨vs, h1, _⟩ := g'.at_ n xs hx
        exact ⟨_, rfl, ⟨vs, Or.inl (Or.inl h1)⟩, wp w' l' g' rfl _ (it_live id r1)⟩
      · exact wp.elim
    · exact wp.elim
/-- a list of one's own is walked by a comprehension -/
def sItO (i : Nat) : SI := fun ρ st => match ρ[i]? with
  | some (some (.own ds)) => .ok (.fix ds) st
  | _ => .bad
theorem dj_own {i : Nat} {x : Str} (hN : X.N[i]? = some x := by rfl) (hv : Vis X.env.scope x := by first | exact Or.inl rfl | exact Or.inr (Or.inl rfl) | exact Or.inr (Or.inr rfl)) (hd : (x == ("__debug__" : Str)) = false := by decide)
    (hcd : (x == ("__classdict__" : Str)) = false := by decide) : DJ X W tg (.Name x pos) (sItO i) := by
  refine ⟨PI_of (pi_list (pe_var hN hv hd hcd)) fun σ H R ⟨w, ρ, e, gd, rl, wp⟩ => ?_⟩
  subst e
  unfold sItO at wp
  split at wp
  · rename_i ds hx
    obtain ⟨a, vs, h1, h2, h3, h4⟩ := rl.own i ds hx
    refine ⟨_, h1, a, rfl, ⟨vs, Or.inl (Or.inl h3)⟩, WpE.now gd wp _ (it_lst fun w2 l2 g2 => ?_)⟩
    exact ⟨vs, Or.inl (Or.inl (l2.keep a _ h3 fun z => (gd.mo a z).1 h2).1), h4.leE gd l2⟩
  · exact wp.elim

/-! ### ranges -/
def rng (lo c : Int) (n : Nat) : List D := (List.range n).map fun (i : Nat) => .int (lo + (i : Int) * c)
theorem rng_get {lo c : Int} {n i : Nat} : (rng lo c n)[i]? = if i < n then some (.int (lo + (i : Int) * c)) else none := by
  unfold rng
  rw [List.getElem?_map]
  by_cases h : i < n
  · rw [if_pos h, List.getElem?_range h]; rfl
  · rw [if_neg h, List.getElem?_eq_none (by rw [List.length_range]; omega)]; rfl
theorem it_rng {L : Wd → Wd → Prop} {G : Gc} {w : Wd} {lo : Int} {n : Nat} : ItOk L G w (Itr lo n) (.fix (rng lo 1 n)) := by
  intro w1 l1 g1 i ds' e
  cases e
  rw [rng_get]
  by_cases h : i < n
  · rw [if_pos h]
    refine ⟨h, fun v H' ⟨e, hv⟩ => ⟨w1, .refl _, g1, rfl, rfl, e.symm, ?_⟩⟩
    subst hv
    rw [Int.mul_one]
    exact rep_int
  · rw [if_neg h]
    exact Nat.le_of_not_lt h
theorem it_rngC {L : Wd → Wd → Prop} {G : Gc} {w : Wd} {lo c : Int} {n : Nat} : ItOk L G w (Itc lo c n) (.fix (rng lo c n)) := by
  intro w1 l1 g1 i ds' e
  cases e
  rw [rng_get]
  by_cases h : i < n
  · rw [if_pos h]
    refine ⟨h, fun v H' ⟨e, hv⟩ => ⟨w1, .refl _, g1, rfl, rfl, e.symm, ?_⟩⟩
    subst hv
    exact rep_int
  · rw [if_neg h]
    exact Nat.le_of_not_lt h
theorem RepL.one {K : PySem.W.Frag} {w : Wd} {d : D} {vs : List V} (r : RepL K w [d] vs) : ∃ v, vs = [v] ∧ Rep K w d v := by
  obtain ⟨v, us, rfl, h1, h2⟩ := r.uncons
  cases h2.nil_eq
  exact ⟨v, rfl, h1⟩
theorem RepL.two {K : PySem.W.Frag} {w : Wd} {d e : D} {vs : List V} (r : RepL K w [d, e] vs) : ∃ v u, vs = [v, u] ∧ Rep K w d v ∧ Rep K w e u := by
  obtain ⟨v, us, rfl, h1, h2⟩ := r.uncons
  obtain ⟨u, rfl, h3⟩ := h2.one
  exact ⟨v, u, rfl, h1, h3⟩
def r1D (ds : List D) (st : Sto) : Out IT := match ds with
  | [.int j] => if -(2 ^ 62) ≤ j ∧ j < 2 ^ 62 then .ok (.fix (rng 0 1 j.toNat)) st else .bad
  | _ => .bad
def r2D (ds : List D) (st : Sto) : Out IT := match ds with
  | [.int i, .int j] => if -(2 ^ 62) ≤ i ∧ i < 2 ^ 62 ∧ -(2 ^ 62) ≤ j ∧ j < 2 ^ 62 then .ok (.fix (rng i 1 (j - i).toNat)) st else .bad
  | _ => .bad
def sItA (k : List D → Sto → Out IT) (fl : SL) : SI := fun ρ st => (fl ρ st).bind k
theorem di_r1 (hg : Gl X "range") (hm : X.mg "range" = none) (ha : DA X W [a] fl) (hs : starEach [a] X.env = [(false, eval a X.env)] := by rfl) : DI X W tg (.Call (.Name "range" p) [a] [] pos) (sItA r1D fl) := by
  refine ⟨PI_of (pi_range1 hg hm ha.pa hs) fun σ H R ⟨w, ρ, e, gd, rl, wp⟩ => ?_⟩
  subst e
  refine ⟨w, ρ, rfl, gd, rl, wp_in wp fun ds w1 l1 g1 q1 vs r => ?_⟩
  unfold r1D at q1
  split at q1
  · split at q1
    · rename_i j h
      obtain ⟨v, rfl, rv⟩ := r.one
      exact ⟨j, by rw [rv.int_eq], h.1, h.2, WpE.now g1 q1 _ it_rng⟩
    · exact q1.elim
  · exact q1.elim
theorem di_r2 (hg : Gl X "range") (hm : X.mg "range" = none) (ha : DA X W [a, b] fl) (hs : starEach [a, b] X.env = [(false, eval a X.env), (false, eval b X.env)] := by rfl) (hs2 : starEach [b] X.env = [(false, eval b X.env)] := by rfl) :
    DI X W tg (.Call (.Name "range" p) [a, b] [] pos) (sItA r2D fl) := by
  refine ⟨PI_of (pi_range2 hg hm ha.pa hs hs2) fun σ H R ⟨w, ρ, e, gd, rl, wp⟩ => ?_⟩
  subst e
  refine ⟨w, ρ, rfl, gd, rl, wp_in wp fun ds w1 l1 g1 q1 vs r => ?_⟩
  unfold r2D at q1
  split at q1
  · split at q1
    · rename_i i j h
      obtain ⟨v, u, rfl, r1, r2⟩ := r.two
      exact ⟨i, j, by rw [r1.int_eq, r2.int_eq], h, WpE.now g1 q1 _ it_rng⟩
    · exact q1.elim
  · exact q1.elim
/-- range(i, j, c): any step of a moderate size -/
def rSz (i j c : Int) : Nat := (Builtin.Range.rangeSize i j c).toNat
def r3D (ds : List D) (st : Sto) : Out IT := match ds with
  | [.int i, .int j, .int c] => if c ≠ 0 ∧ c.natAbs < 1073741824 ∧ Builtin.Range.small i j c = true ∧ 0 ≤ Builtin.Range.rangeSize i j c then .ok (.fix (rng i c (rSz i j c))) st else .bad
  | _ => .bad
theorem di_r3 (hg : Gl X "range") (hm : X.mg "range" = none) (ha : DA X W [a, b, c] fl) (hs : starEach [a, b, c] X.env = (false, eval a X.env) :: starEach [b, c] X.env := by rfl) (hpl : (backTo pos (starEach [b, c] X.env)).any (·.1) = false := by rfl) :
    DI X W tg (.Call (.Name "range" p) [a, b, c] [] pos) (sItA r3D fl) := by
  refine ⟨PI_of (pi_range3 hg hm ha.pa hs hpl) fun σ H R ⟨w, ρ, e, gd, rl, wp⟩ => ?_⟩
  subst e
  refine ⟨w, ρ, rfl, gd, rl, wp_in wp fun ds w1 l1 g1 q1 vs r => ?_⟩
  unfold r3D at q1
  split at q1
  · split at q1
    · rename_i i j c h
      obtain ⟨v, us, rfl, r1, r⟩ := r.uncons
      obtain ⟨u, x, rfl, r2, r3⟩ := r.two
      obtain ⟨h1, h2, h3, h4⟩ := h
      exact ⟨i, j, c, rSz i j c, by rw [r1.int_eq, r2.int_eq, r3.int_eq], ⟨h1, h2, h3, by unfold rSz; omega⟩, WpE.now g1 q1 _ it_rngC⟩
    · exact q1.elim
  · exact q1.elim
/-- downwards -/
theorem r3D_down {i j : Int} {st : Sto} (ha : -(2 ^ 62) ≤ i) (ha' : i < 2 ^ 62) (hb : -(2 ^ 62) ≤ j) (hb' : j < 2 ^ 62) : r3D [.int i, .int j, .int (-1)] st = .ok (.fix (rng i (-1) (i - j).toNat)) st := by
  have e := PySem.W.rangeSize_downNat i j
  have h1 : rSz i j (-1) = (i - j).toNat := by unfold rSz; rw [e]; omega
  show (if _ then _ else _) = _
  rw [if_pos ⟨by decide, by decide, PySem.W.small_down ha ha' hb hb', by rw [e]; omega⟩, h1]

/-! ### for, while -/
def stepT (t : Tgt) (body : SS) : D → SS := fun d ρ st => match t.bind d ρ with
  | some ρ' => body ρ' st
  | none => .bad
def forF (it : IT) (step : D → SS) : Nat → Nat → SS
  | 0, _, _, _ => .bad
  | m + 1, i, ρ, st => match it.now st with
    | none => .bad
    | some ds => (match ds[i]? with
      | none => .ok (.nx ρ) st
      | some d => (step d ρ st).bind fun fl st1 => match fl with
        | .nx ρ1 => forF it step m (i + 1) ρ1 st1
        | .ct ρ1 => forF it step m (i + 1) ρ1 st1
        | .bk ρ1 => .ok (.nx ρ1) st1
        | .rt r => .ok (.rt r) st1)
def qFor (fi : SI) (t : Tgt) (body : SS) : SS := fun ρ st => (fi ρ st).bind fun it st1 => match it.now st1 with
  | none => .bad
  | some ds => forF it (stepT t body) (ds.length + 1) 0 ρ st1
/-- over items that stay -/
def forL (step : D → SS) : List D → SS
  | [], ρ, st => .ok (.nx ρ) st
  | d :: ds, ρ, st => (step d ρ st).bind fun fl st1 => match fl with
    | .nx ρ1 => forL step ds ρ1 st1
    | .ct ρ1 => forL step ds ρ1 st1
    | .bk ρ1 => .ok (.nx ρ1) st1
    | .rt r => .ok (.rt r) st1
theorem forF_fix (step : D → SS) (all : List D) : ∀ (ds : List D) (i : Nat) (ρ : En) (st : Sto), all.drop i = ds → forF (.fix all) step (ds.length + 1) i ρ st = forL step ds ρ st
  | [], i, ρ, st, h => by
    have : all[i]? = none := by
      rw [List.getElem?_eq_none_iff]
      exact List.drop_eq_nil_iff.mp h
    unfold forF
    simp only [IT.now_fix, this]
    rfl
  | d :: ds, i, ρ, st, h => by
    have h1 : all[i]? = some d := by
      have := congrArg (fun l => l[0]?) h
      simpa using this
    have h2 : all.drop (i + 1) = ds := by
      have := congrArg (fun l => l.drop 1) h
      simpa using this
    unfold forF
    simp only [IT.now_fix, h1]
    show _ = (step d ρ st).bind _
    congr 1
    funext fl st1
    cases fl with
    | nx ρ1 => exact forF_fix step all ds (i + 1) ρ1 st1 h2
    | ct ρ1 => exact forF_fix step all ds (i + 1) ρ1 st1 h2
    | bk ρ1 => rfl
    | rt r => rfl
theorem qFor_fix {t : Tgt} {body : SS} {ρ : En} {st st1 : Sto} {ds : List D} (h : fi ρ st = .ok (.fix ds) st1) : qFor fi t body ρ st = forL (stepT t body) ds ρ st1 := by
  unfold qFor
  rw [h]
  exact forF_fix _ ds ds 0 ρ st1 rfl
theorem turn_ok {G : Gc} {W : WX} {w : Wd} {D0 : Ends} {o : Out Fl} {k : Fl → Sto → Out Fl} {N : L2.St → Hp → Prop}
    (h : WpS G W w (o.bind k) (EndOk G D0)) (hr : ∀ r st, k (.rt r) st = .ok (.rt r) st) (hb : ∀ ρ st, k (.bk ρ) st = .ok (.nx ρ) st)
    (hn : ∀ ρ w' σ, LeF w w' → Good G.K w' → RelEn G w' ρ σ → WpS G W w' (k (.nx ρ) w'.st) (EndOk G D0) → N σ w'.H) (hc : ∀ ρ w' σ, LeF w w' → Good G.K w' → RelEn G w' ρ σ → WpS G W w' (k (.ct ρ) w'.st) (EndOk G D0) → N σ w'.H) :
    WpS G W w o (EndOk G { D0 with nx := N, ct := N, bk := D0.nx }) := by
  refine WpS.mono (WpS.bind h) fun fl w1 l1 g1 q => ?_
  cases fl with
  | nx ρ1 => exact fun σ rl => hn ρ1 w1 σ l1 g1 rl q
  | ct ρ1 => exact fun σ rl => hc ρ1 w1 σ l1 g1 rl q
  | bk ρ1 =>
    rw [hb] at q
    exact WpS.now (W := W) g1 q
  | rt r =>
    rw [hr] at q
    cases r <;> exact WpS.now (W := W) g1 q
theorem ds_for {iter : Expr} {bd : List Stmt} {t : Tgt} {f : SS} (hp : PassesOwn (model X.prog X.w) X.A X.env X.xe) (hc : X.calm = true) (hi : DI X W tg iter fi) (hg : DG X tg t) (hb : DSs X W bd f)
    (hs : ∀ x, foldedSetIterable iter X.env x = pure x := by intro _; rfl) : DS X W (.For tg iter bd [] pos) (qFor fi t f) := by
  refine ⟨PS_of (ps_for hp hc hi.pi hg.pg hb.ps hs) fun D0 σ H ⟨w, ρ, e, gd, rl, wp⟩ => ?_⟩
  subst e
  refine ⟨w, ρ, rfl, gd, rl, (WpS.bindE wp).mono fun it w1 l1 g1 q1 J ok => ?_⟩
  split at q1
  · exact q1.elim
  · rename_i ds0 h0
    refine ⟨fun i m σ H => ∃ w ρ, w.H = H ∧ LeF w1 w ∧ Good X.K w ∧ RelEn (gc X) w ρ σ ∧ WpS (gc X) W w (forF it (stepT t f) m i ρ w.st) (EndOk (gc X) D0), ⟨_, w1, ρ, rfl, .refl _, g1, rl.leE gd l1, q1⟩, ?_⟩
    rintro i m σ2 H2 ⟨w2, ρ2, rfl, l2, g2, rl2, q2⟩
    cases m with
    | zero => exact q2.elim
    | succ m =>
      unfold forF at q2
      split at q2
      · exact q2.elim
      · rename_i ds hds
        have ok2 := ok w2 l2 g2 i ds hds
        cases hd : ds[i]? with
        | none =>
          rw [hd] at q2 ok2
          exact .inl ⟨ok2, WpS.now g2 q2 _ rl2⟩
        | some d =>
          rw [hd] at q2 ok2
          obtain ⟨go, y⟩ := ok2
          refine .inr ⟨go, fun σ' H' => ∃ w ρ, w.H = H' ∧ LeF w1 w ∧ Good X.K w ∧ RelEn (gc X) w ρ σ' ∧ WpS (gc X) W w (forF it (stepT t f) m (i + 1) ρ w.st) (EndOk (gc X) D0), fun σ' H' h => ⟨m, Nat.lt_succ_self m, h⟩, fun x H' hy => ?_⟩
          obtain ⟨w3, l3, g3, e3, _, rfl, r3⟩ := y x H' hy
          have rl3 := rl2.leE g2 l3
          have q3 : WpS (gc X) W w3 ((stepT t f d ρ2 w3.st).bind _) (EndOk (gc X) D0) := WpS.le l3.toF (by rw [e3]; exact q2)
          unfold stepT at q3
          cases hb2 : t.bind d ρ2 with
          | none => rw [hb2] at q3; exact q3.elim
          | some ρ3 =>
            rw [hb2] at q3
            refine tgt_ok t d x ρ2 ρ3 σ2 _ rl3 r3 hb2 fun σ3 rl3' => ⟨w3, ρ3, rfl, g3, rl3', ?_⟩
            exact turn_ok q3 (fun _ _ => rfl) (fun _ _ => rfl) (fun ρ w' σ l g r q => ⟨w', ρ, rfl, l2.trans (l3.toF.trans l), g, r, q⟩) (fun ρ w' σ l g r q => ⟨w', ρ, rfl, l2.trans (l3.toF.trans l), g, r, q⟩)
/-- while -/
def whileF (k : SB) (body : SS) : Nat → SS
  | 0, _, _ => .bad
  | m + 1, ρ, st => (k ρ st).bind fun b st1 => if b = true then (body ρ st1).bind fun fl st2 => (match fl with
      | .nx ρ1 => whileF k body m ρ1 st2
      | .ct ρ1 => whileF k body m ρ1 st2
      | .bk ρ1 => .ok (.nx ρ1) st2
      | .rt r => .ok (.rt r) st2)
    else .ok (.nx ρ) st1
theorem ds_whileF {k : SB} {bd : List Stmt} {f : SS} (mz : En → Sto → Nat) (hp : PassesOwn (model X.prog X.w) X.A X.env X.xe) (hk : DT X W c k) (hb : DSs X W bd f) : DS X W (.While c bd [] pos) (fun ρ st => whileF k f (mz ρ st) ρ st) := by
  refine ⟨PS_of (ps_while hp hk.pt hb.ps) fun D0 σ H ⟨w, ρ, e, gd, rl, wp⟩ => ?_⟩
  subst e
  refine ⟨fun m σ H => ∃ w ρ, w.H = H ∧ Good X.K w ∧ RelEn (gc X) w ρ σ ∧ WpS (gc X) W w (whileF k f m ρ w.st) (EndOk (gc X) D0), ⟨_, w, ρ, rfl, gd, rl, wp⟩, ?_⟩
  rintro m σ2 H2 ⟨w2, ρ2, rfl, g2, rl2, q2⟩
  cases m with
  | zero => exact q2.elim
  | succ m =>
    unfold whileF at q2
    refine ⟨w2, ρ2, rfl, g2, rl2, (WpS.bindE q2).mono fun b w3 l3 g3 q3 => ?_⟩
    cases b with
    | true =>
      refine iteT ⟨fun σ' H' => ∃ w ρ, w.H = H' ∧ Good X.K w ∧ RelEn (gc X) w ρ σ' ∧ WpS (gc X) W w (whileF k f m ρ w.st) (EndOk (gc X) D0), fun σ' H' h => ⟨m, Nat.lt_succ_self m, h⟩, w3, ρ2, rfl, g3, rl2.leE g2 l3, ?_⟩
      exact turn_ok (show WpS (gc X) W w3 ((f ρ2 w3.st).bind _) (EndOk (gc X) D0) from q3) (fun _ _ => rfl) (fun _ _ => rfl) (fun ρ w' σ l g r q => ⟨w', ρ, rfl, g, r, q⟩) (fun ρ w' σ l g r q => ⟨w', ρ, rfl, g, r, q⟩)
    | false => exact iteF (WpS.now (W := W) (a := Fl.nx ρ2) g3 q3 _ (rl2.leE g2 l3))
theorem whileF_mono {k : SB} {f : SS} : ∀ (m : Nat) (ρ : En) (st : Sto), whileF k f m ρ st ≠ .bad → whileF k f (m + 1) ρ st = whileF k f m ρ st
  | 0, _, _, h => (h rfl).elim
  | m + 1, ρ, st, h => by
    unfold whileF at h
    show (k ρ st).bind _ = (k ρ st).bind _
    cases hk : k ρ st with
    | bad => rfl
    | err x ρ' st' => rfl
    | ok b st1 =>
      rw [hk] at h
      rw [Out.bind_ok] at h ⊢
      rw [Out.bind_ok]
      cases b with
      | false => rfl
      | true =>
        simp only [if_true] at h ⊢
        cases hf : f ρ st1 with
        | bad => rfl
        | err x ρ' st' => rfl
        | ok fl st2 =>
          rw [hf] at h
          rw [Out.bind_ok] at h ⊢
          rw [Out.bind_ok]
          cases fl with
          | nx ρ1 => exact whileF_mono m ρ1 st2 h
          | ct ρ1 => exact whileF_mono m ρ1 st2 h
          | bk ρ1 => rfl
          | rt r => rfl
theorem whileF_le {k : SB} {f : SS} {m : Nat} {ρ : En} {st : Sto} (h : whileF k f m ρ st ≠ .bad) : ∀ n, m ≤ n → whileF k f n ρ st = whileF k f m ρ st := by
  intro n hn
  induction n with
  | zero => cases Nat.le_zero.mp hn; rfl
  | succ n ih =>
    by_cases e : m = n + 1
    · rw [e]
    · have e1 := ih (by omega)
      rw [whileF_mono n ρ st (by rw [e1]; exact h), e1]
open Classical in
/-- as many turns as are needed -/
noncomputable def qWhile (k : SB) (f : SS) : SS := fun ρ st => if h : ∃ m, whileF k f m ρ st ≠ .bad then whileF k f h.choose ρ st else .bad
theorem qWhile_of {k : SB} {f : SS} {m : Nat} {ρ : En} {st : Sto} (h : whileF k f m ρ st ≠ .bad) : qWhile k f ρ st = whileF k f m ρ st := by
  have hx : ∃ m, whileF k f m ρ st ≠ .bad := ⟨m, h⟩
  unfold qWhile
  rw [dif_pos hx]
  rcases Nat.le_total m hx.choose with q | q
  · exact whileF_le h _ q
  · exact (whileF_le hx.choose_spec _ q).symm
theorem ds_while {k : SB} {bd : List Stmt} {f : SS} (hp : PassesOwn (model X.prog X.w) X.A X.env X.xe) (hk : DT X W c k) (hb : DSs X W bd f) : DS X W (.While c bd [] pos) (qWhile k f) := by
  classical
  have := ds_whileF (pos := pos) (fun ρ st => if h : ∃ m, whileF k f m ρ st ≠ .bad then h.choose else 0) hp hk hb
  refine ⟨PS_of this.ps fun D σ H ⟨w, ρ, e, gd, rl, wp⟩ => ⟨w, ρ, e, gd, rl, ?_⟩⟩
  unfold qWhile at wp
  by_cases h : ∃ m, whileF k f m ρ w.st ≠ .bad
  · rw [dif_pos h] at wp
    show WpS _ _ _ (whileF k f (dite _ _ _) ρ w.st) _
    rw [dif_pos h]
    exact wp
  · rw [dif_neg h] at wp
    exact wp.elim
/-- one turn -/
theorem qWhile_end {k : SB} {f : SS} {ρ : En} {st st1 : Sto} (h : k ρ st = .ok false st1) : qWhile k f ρ st = .ok (.nx ρ) st1 := by
  have e : whileF k f 1 ρ st = .ok (.nx ρ) st1 := by
    unfold whileF
    rw [h]; rfl
  rw [qWhile_of (m := 1) (by rw [e]; intro z; cases z), e]
theorem qWhile_next {k : SB} {f : SS} {ρ ρ1 : En} {st st1 st2 : Sto} (h : k ρ st = .ok true st1) (hf : f ρ st1 = .ok (.nx ρ1) st2) : qWhile k f ρ st = qWhile k f ρ1 st2 := by
  have e : ∀ m, whileF k f (m + 1) ρ st = whileF k f m ρ1 st2 := fun m => by
    show (k ρ st).bind _ = _
    rw [h, Out.bind_ok, if_pos rfl, hf]; rfl
  by_cases hx : ∃ m, whileF k f m ρ1 st2 ≠ .bad
  · obtain ⟨m, hm⟩ := hx
    rw [qWhile_of hm, qWhile_of (m := m + 1) (by rw [e]; exact hm), e]
  · have h2 : ¬ ∃ m, whileF k f m ρ st ≠ .bad := fun ⟨m, hm⟩ => by
      cases m with
      | zero => exact hm rfl
      | succ m => rw [e] at hm; exact hx ⟨m, hm⟩
    unfold qWhile
    rw [dif_neg hx, dif_neg h2]
theorem qWhile_ret {k : SB} {f : SS} {ρ : En} {st st1 st2 : Sto} {r : SV} (h : k ρ st = .ok true st1) (hf : f ρ st1 = .ok (.rt r) st2) : qWhile k f ρ st = .ok (.rt r) st2 := by
  have e : whileF k f 1 ρ st = .ok (.rt r) st2 := by
    unfold whileF
    rw [h, Out.bind_ok, if_pos rfl, hf]; rfl
  rw [qWhile_of (m := 1) (by rw [e]; intro z; cases z), e]
theorem qWhile_brk {k : SB} {f : SS} {ρ ρ1 : En} {st st1 st2 : Sto} (h : k ρ st = .ok true st1) (hf : f ρ st1 = .ok (.bk ρ1) st2) : qWhile k f ρ st = .ok (.nx ρ1) st2 := by
  have e : whileF k f 1 ρ st = .ok (.nx ρ1) st2 := by
    unfold whileF
    rw [h, Out.bind_ok, if_pos rfl, hf]; rfl
  rw [qWhile_of (m := 1) (by rw [e]; intro z; cases z), e]
theorem qWhile_err {k : SB} {f : SS} {ρ ρ1 : En} {st st1 st2 : Sto} {x : Ex} (h : k ρ st = .ok true st1) (hf : f ρ st1 = .err x ρ1 st2) : qWhile k f ρ st = .err x ρ1 st2 := by
  have e : whileF k f 1 ρ st = .err x ρ1 st2 := by
    unfold whileF
    rw [h, Out.bind_ok, if_pos rfl, hf]; rfl
  rw [qWhile_of (m := 1) (by rw [e]; intro z; cases z), e]
end
end Ds
set_option Elab.async false
set_option linter.all false
set_option maxRecDepth 100000
set_option maxHeartbeats 1000000
set_option autoImplicit false
/-! DsK: list comprehensions. -/
namespace Ds
open PySem PySem.Spec PyProof.Rows L2

/-! ### the block's own names forgotten -/
def wipeE (ρ : En) : List Nat → En
  | [] => ρ
  | v :: vs => (wipeE ρ vs).set v none
theorem wipe_get {σ : L2.St} {j : Nat} : ∀ {vs : List Nat}, (wipe σ vs)[j]? = if j ∈ vs then σ[j]?.map (fun _ => none) else σ[j]?
  | [] => by simp [wipe]
  | v :: vs => by
    unfold wipe
    by_cases h : v = j
    · subst h
      rw [if_pos List.mem_cons_self]
      by_cases hl : v < σ.length
      · rw [List.getElem?_set_self (by rw [wipe_length]; exact hl), List.getElem?_eq_getElem hl]; rfl
      · rw [List.getElem?_eq_none (by rw [List.length_set, wipe_length]; omega), List.getElem?_eq_none (by omega)]; rfl
    · rw [List.getElem?_set_ne h, wipe_get (vs := vs)]
      by_cases hm : j ∈ vs
      · rw [if_pos hm, if_pos (List.mem_cons_of_mem _ hm)]
      · rw [if_neg hm, if_neg (by simp only [List.mem_cons, not_or]; exact ⟨fun e => h e.symm, hm⟩)]
theorem wipeE_len (ρ : En) : ∀ vs : List Nat, (wipeE ρ vs).length = ρ.length
  | [] => rfl
  | v :: vs => by unfold wipeE; rw [List.length_set, wipeE_len ρ vs]
theorem wipeE_get {ρ : En} {j : Nat} {x : Sl} : ∀ {vs : List Nat}, (wipeE ρ vs)[j]? = some (some x) → ρ[j]? = some (some x) ∧ j ∉ vs
  | [], h => ⟨h, by simp⟩
  | v :: vs, h => by
    unfold wipeE at h
    rcases set_get h with ⟨rfl, q⟩ | ⟨ne, q⟩
    · cases q
    · obtain ⟨h1, h2⟩ := wipeE_get q
      exact ⟨h1, by simp only [List.mem_cons, not_or]; exact ⟨fun e => ne e.symm, h2⟩⟩
theorem wipe_set {σ : L2.St} {i : Nat} {x : Option V} {vs : List Nat} (h : i ∈ vs) : wipe (σ.set i x) vs = wipe σ vs := by
  refine List.ext_getElem? fun j => ?_
  rw [wipe_get, wipe_get]
  by_cases e : i = j
  · subst e
    rw [if_pos h, if_pos h]
    by_cases hl : i < σ.length
    · rw [List.getElem?_set_self hl, List.getElem?_eq_getElem hl]; rfl
    · rw [List.getElem?_eq_none (by rw [List.length_set]; omega), List.getElem?_eq_none (by omega)]
  · rw [List.getElem?_set_ne e]
theorem wipe_wipe {σ : L2.St} {vs : List Nat} : wipe (wipe σ vs) vs = wipe σ vs := by
  refine List.ext_getElem? fun j => ?_
  rw [wipe_get, wipe_get]
  by_cases h : j ∈ vs
  · rw [if_pos h, if_pos h]
    cases σ[j]? <;> rfl
  · rw [if_neg h, if_neg h]
theorem RelEn.wiped {G : Gc} {w : Wd} {ρ : En} {σ : L2.St} (r : RelEn G w ρ σ) (vs : List Nat) : RelEn G w (wipeE ρ vs) (wipe σ vs) where
  exn := fun i x h => by
    obtain ⟨h1, h2⟩ := wipeE_get h
    obtain ⟨a, c, d, q1, q2, q3⟩ := r.exn i x h1
    exact ⟨a, c, d, q1, by rw [wipe_out h2]; exact q2, q3⟩
  len := by rw [wipeE_len, wipe_length]; exact r.len
  val := fun i d h => by
    obtain ⟨h1, h2⟩ := wipeE_get h
    obtain ⟨v, q1, q2⟩ := r.val i d h1
    exact ⟨v, by rw [wipe_out h2]; exact q1, q2⟩
  own := fun i ds h => by
    obtain ⟨h1, h2⟩ := wipeE_get h
    obtain ⟨a, v, q1, q2⟩ := r.own i ds h1
    exact ⟨a, v, by rw [wipe_out h2]; exact q1, q2⟩
  sep := fun i j ds es a h1 h2 h3 h4 => by
    obtain ⟨h1, n1⟩ := wipeE_get h1
    obtain ⟨h2, n2⟩ := wipeE_get h2
    rw [wipe_out n1] at h3
    rw [wipe_out n2] at h4
    exact r.sep i j ds es a h1 h2 h3 h4
mutual
def Tgt.within (vs : List Nat) : Tgt → Bool
  | .nm i => decide (i ∈ vs)
  | .tp ts => Tgt.withins vs ts
def Tgt.withins (vs : List Nat) : List Tgt → Bool
  | [] => true
  | t :: ts => t.within vs && Tgt.withins vs ts
end
mutual
theorem tgt_okW {G : Gc} {w : Wd} {ns : List Nat} : ∀ (t : Tgt) (d : D) (v : V) (ρ ρ' : En) (σ : L2.St) (Q : L2.St → Hp → Prop), RelEn G w ρ σ → Rep G.K w d v → t.bind d ρ = some ρ' → t.within ns = true → (∀ σ', RelEn G w ρ' σ' → wipe σ' ns = wipe σ ns → Q σ' w.H) → t.g G.K v σ w.H Q
  | .nm i, d, v, ρ, ρ', σ, Q, rl, r, h, hn, q => by
    unfold Tgt.bind at h
    unfold Tgt.g
    split at h
    · rename_i hi
      cases h
      exact q _ (rl.setVal r hi) (wipe_set (of_decide_eq_true hn))
    · cases h
  | .tp ts, .tup ds, v, ρ, ρ', σ, Q, rl, r, h, hn, q => by
    unfold Tgt.bind at h
    unfold Tgt.g
    obtain ⟨a, vs, rfl, t, rr⟩ := r.tup_eq
    exact ⟨a, vs, rfl, t.sq, by rw [rr.length, binds_len _ _ _ _ h], tgts_okW ts ds vs ρ ρ' σ Q rl rr h hn q⟩
  | .tp ts, .non, v, ρ, ρ', σ, Q, rl, r, h, hn, q => by simp [Tgt.bind] at h
  | .tp ts, .bl _, v, ρ, ρ', σ, Q, rl, r, h, hn, q => by simp [Tgt.bind] at h
  | .tp ts, .int _, v, ρ, ρ', σ, Q, rl, r, h, hn, q => by simp [Tgt.bind] at h
  | .tp ts, .str _, v, ρ, ρ', σ, Q, rl, r, h, hn, q => by simp [Tgt.bind] at h
  | .tp ts, .lst _, v, ρ, ρ', σ, Q, rl, r, h, hn, q => by simp [Tgt.bind] at h
  | .tp ts, .fz _, v, ρ, ρ', σ, Q, rl, r, h, hn, q => by simp [Tgt.bind] at h
  | .tp ts, .ref _, v, ρ, ρ', σ, Q, rl, r, h, hn, q => by simp [Tgt.bind] at h
theorem tgts_okW {G : Gc} {w : Wd} {ns : List Nat} : ∀ (ts : List Tgt) (ds : List D) (vs : List V) (ρ ρ' : En) (σ : L2.St) (Q : L2.St → Hp → Prop), RelEn G w ρ σ → RepL G.K w ds vs → Tgt.binds ts ds ρ = some ρ' → Tgt.withins ns ts = true → (∀ σ', RelEn G w ρ' σ' → wipe σ' ns = wipe σ ns → Q σ' w.H) → Tgt.gs G.K ts vs σ w.H Q
  | [], [], vs, ρ, ρ', σ, Q, rl, r, h, hn, q => by
    unfold Tgt.binds at h
    cases h
    unfold Tgt.gs
    exact ⟨r.nil_eq, q _ rl rfl⟩
  | t :: ts, d :: ds, vs, ρ, ρ', σ, Q, rl, r, h, hn, q => by
    unfold Tgt.binds at h
    obtain ⟨v, us, rfl, r1, r2⟩ := r.uncons
    obtain ⟨n1, n2⟩ := Bool.and_eq_true_iff.mp (show (t.within ns && Tgt.withins ns ts) = true from hn)
    cases e : t.bind d ρ with
    | none => rw [e] at h; cases h
    | some ρ1 =>
      rw [e] at h
      unfold Tgt.gs
      exact ⟨v, us, rfl, tgt_okW t d v ρ ρ1 σ _ rl r1 e n1 fun σ1 rl1 w1 => tgts_okW ts ds us ρ1 ρ' σ1 Q rl1 r2 h n2 fun σ2 rl2 w2 => q σ2 rl2 (w2.trans w1)⟩
  | [], d :: ds, vs, ρ, ρ', σ, Q, rl, r, h, hn, q => by simp [Tgt.binds] at h
  | t :: ts, [], vs, ρ, ρ', σ, Q, rl, r, h, hn, q => by simp [Tgt.binds] at h
end

/-! ### the new list -/
theorem drop_good {K : PySem.W.Frag} {w : Wd} {a : Addr} (g : Good K w) : Good K (w.drop a) :=
  ⟨g.inj, fun n es h => let ⟨ws, q1, q2⟩ := g.at_ n es h; ⟨ws, q1, RepL.leF g drop_lef _ _ q2⟩, fun b q => ⟨fun z => (g.mo b q).1 z.1, (g.mo b q).2⟩, fun b q => g.ow b q.1, g.pr, g.szl, g.szt⟩
theorem plus_drop {w : Wd} {a : Addr} (o : w.O a) : (w.drop a).plus a = w := by
  cases w with
  | mk μ st H O P =>
    have e : (fun b => (O b ∧ b ≠ a) ∨ b = a) = O := by
      funext b
      refine propext ⟨fun z => z.elim (·.1) fun z => by rw [z]; exact o, fun z => ?_⟩
      by_cases c : b = a
      · exact .inr c
      · exact .inl ⟨z, c⟩
    show Wd.mk μ st H (fun b => (O b ∧ b ≠ a) ∨ b = a) P = _
    rw [e]
theorem drop_le {K : PySem.W.Frag} {w1 w : Wd} {a : Addr} (g1 : Good K w1) (l : LeE w1 w) (hn : w1.H a = none) : LeE w1 (w.drop a) :=
  ⟨l.mu, l.len, l.pp, l.keep, fun b q => ⟨l.own b q, fun z => (g1.fresh hn).2.1 (by rw [← z]; exact q)⟩, fun b o e n q => l.ofr b o e n q.1, l.dom, l.liv⟩
theorem put_le {w1 w : Wd} {a : Addr} {vs : List V} (l : LeE w1 w) (hn : w1.H a = none) (o : w.O a) (e : ∃ us, w.H a = some (.lst us)) : LeE w1 (w.put a vs) := by
  obtain ⟨us, e⟩ := e
  have lf := put_lef (vs := vs) o e
  refine ⟨l.mu, l.len, l.pp, fun b u h n => ?_, l.own, l.ofr, fun b u h => ?_, l.liv⟩
  · obtain ⟨h1, n1⟩ := l.keep b u h n
    exact ⟨by show upd w.H a _ b = _; rw [upd_ne (ne_of_none h hn)]; exact h1, n1⟩
  · obtain ⟨u', h'⟩ := l.dom b u h
    exact lf.dom b u' h'
theorem made_of {K : PySem.W.Frag} {w0 w1 w : Wd} {a : Addr} {ds : List D} {vs : List V} (l0 : LeE w0 w1) (hn : w1.H a = none) (g : Good K w) (o : w.O a) (h : w.H a = some (.lst vs)) (r : RepL K w ds vs) : Made K w0 (w.drop a) a ds vs :=
  ⟨l0.unl hn, h, fun z => z.2 rfl, by rw [plus_drop o]; exact g, by rw [plus_drop o]; exact r⟩

/-! ### what a comprehension is worth -/
/-- nothing is raised within a block -/
def shield {α : Type} : Out α → Out α
  | .err _ _ _ => .bad
  | o => o
@[simp] theorem shield_ok {α : Type} {a : α} {st : Sto} : shield (.ok a st) = .ok a st := Eq.trans (Eq.refl _) (Eq.refl _)
@[simp] theorem shield_bad {α : Type} : shield (.bad : Out α) = .bad := Eq.trans (Eq.refl _) (Eq.refl _)
abbrev W0 : WX := fun _ _ _ _ => False
theorem unshield {α : Type} {G : Gc} {W : WX} {w : Wd} {o : Out α} {P : α → Wd → Prop} (h : WpE G W w (shield o) P) : WpE G W0 w o P := by
  cases o with
  | ok a st => exact h
  | err x ρ st => exact h.elim
  | bad => exact h
def lcF (it : IT) (step : D → Sto → Out (Option D)) : Nat → Nat → List D → Sto → Out (List D)
  | 0, _, _, _ => .bad
  | m + 1, i, acc, st => match it.now st with
    | none => .bad
    | some ds => (match ds[i]? with
      | none => .ok acc st
      | some d => (step d st).bind fun o st1 => match o with
        | none => lcF it step m (i + 1) acc st1
        | some y => if acc.length < sizeLine then lcF it step m (i + 1) (acc ++ [y]) st1 else .bad)
def turnC (k : SB) (fe : SE) : En → Sto → Out (Option D) := fun ρ st => (k ρ st).bind fun b st1 => if b = true then (fe ρ st1).bind fun y st2 => .ok (some y) st2 else .ok none st1
def stepC (t : Tgt) (k : SB) (fe : SE) (ρ : En) : D → Sto → Out (Option D) := fun d st => match t.bind d ρ with
  | some ρ' => shield (turnC k fe ρ' st)
  | none => .bad
def sLc (fi : SI) (t : Tgt) (k : SB) (fe : SE) (vs : List Nat) : SL := fun ρ st => (fi ρ st).bind fun it st1 => match it.now st1 with
  | none => .bad
  | some ds => lcF it (stepC t k fe (wipeE ρ vs)) (ds.length + 1) 0 [] st1
/-- over items that stay -/
def lcL (step : D → Sto → Out (Option D)) : List D → List D → Sto → Out (List D)
  | [], acc, st => .ok acc st
  | d :: ds, acc, st => (step d st).bind fun o st1 => match o with
    | none => lcL step ds acc st1
    | some y => if acc.length < sizeLine then lcL step ds (acc ++ [y]) st1 else .bad
theorem lcF_fix (step : D → Sto → Out (Option D)) (all : List D) : ∀ (ds : List D) (i : Nat) (acc : List D) (st : Sto), all.drop i = ds → lcF (.fix all) step (ds.length + 1) i acc st = lcL step ds acc st
  | [], i, acc, st, h => by
    have : all[i]? = none := by
      rw [List.getElem?_eq_none_iff]
      exact List.drop_eq_nil_iff.mp h
    unfold lcF
    simp only [IT.now_fix, this]
    rfl
  | d :: ds, i, acc, st, h => by
    have h1 : all[i]? = some d := by
      have := congrArg (fun l => l[0]?) h
      simpa using this
    have h2 : all.drop (i + 1) = ds := by
      have := congrArg (fun l => l.drop 1) h
      simpa using this
    unfold lcF
    simp only [IT.now_fix, h1]
    show _ = (step d st).bind _
    congr 1
    funext o st1
    cases o with
    | none => exact lcF_fix step all ds (i + 1) acc st1 h2
    | some y =>
      have e := lcF_fix step all ds (i + 1) (acc ++ [y]) st1 h2
      show (if acc.length < sizeLine then lcF (.fix all) step (ds.length + 1) (i + 1) (acc ++ [y]) st1 else .bad) = (if _ then _ else _)
      rw [e]
theorem sLc_fix {fi : SI} {t : Tgt} {k : SB} {fe : SE} {vs : List Nat} {ρ : En} {st st1 : Sto} {ds : List D} (h : fi ρ st = .ok (.fix ds) st1) : sLc fi t k fe vs ρ st = lcL (stepC t k fe (wipeE ρ vs)) ds [] st1 := by
  unfold sLc
  rw [h]
  exact lcF_fix _ ds ds 0 [] st1 rfl
structure DTs (X : Cx) (W : WX) (ifs : List Expr) (k : SB) : Prop where pt : PTs X ifs (tT (gc X) W k)
def bYes : SB := fun _ st => .ok true st
section
variable {X : Cx} {W : WX} {tg iter elt c : Expr} {ifs : List Expr} {fi : SI} {t : Tgt} {k : SB} {fe : SE} {scope : Scope} {own : List (Str × Nat)} {pos spos py : Pos}
theorem dts_nil : DTs X W [] bYes := ⟨⟨fun pins s σ H Q I ⟨w, ρ, e, gd, rl, wp⟩ => by subst e; exact pts_nil.run pins s σ _ Q I (WpE.now gd wp)⟩⟩
theorem dts_one (h : DT X W c k) : DTs X W [c] k := ⟨pts_one h.pt⟩
theorem bind0 {α β : Type} {G : Gc} {W : WX} {w : Wd} {o : Out α} {k : α → Sto → Out β} {R : β → Wd → Prop} (h : WpE G W w (o.bind k) R) : WpE G W w o (fun a w' => WpE G W w (k a w'.st) R) := by
  cases o with
  | ok a st => exact fun w' l' g e => by subst e; exact h
  | err x ρ st => exact h
  | bad => exact h
theorem lc_wish (hw : t.within (own.map (·.2)) = true) {σ : L2.St} {H : Hp} {Q : VK} (h : tO (gc X) W (sLc fi t k fe (own.map (·.2))) σ H Q) :
    tLc (tI LeE (gc X) W fi) (t.g X.K) (tT (gc X) W0 k) (tD (gc X) W0 fe) (own.map (·.2)) σ H Q := by
  obtain ⟨w, ρ, e, gd, rl, wp⟩ := h
  subst e
  refine ⟨w, ρ, rfl, gd, rl, (WpE.bind wp).mono fun it w1 l1 g1 q1 J ok => ?_⟩
  intro A hA
  obtain ⟨lA, gA, rA⟩ := new_own (K := X.K) g1 hA (.nil) (Nat.zero_le _)
  split at q1
  · exact q1.elim
  rename_i ds0 h0
  -- a turn's state
  let St := fun (i m : Nat) (H : Hp) => ∃ (w2 : Wd) (acc : List D) (vs : List V), w2.H = H ∧ LeE w1 w2 ∧ Good X.K w2 ∧ w2.O A ∧ w2.H A = some (.lst vs) ∧ RepL X.K w2 acc vs ∧
    WpE (gc X) W w1 (lcF it (stepC t k fe (wipeE ρ (own.map (·.2)))) m i acc w2.st) fun ds w' => ∀ a vs, Made X.K w w' a ds vs → Q (.ref a) w'.H
  refine ⟨St, ⟨_, _, [], [], rfl, lA, gA, .inr rfl, upd_same, rA, q1⟩, ?_⟩
  rintro i m H2 ⟨w2, acc, vs, rfl, l2, g2, o2, h2, r2, q2⟩
  have nml : ¬ w2.Ml A := fun z => (g2.mo A z).1 o2
  cases m with
  | zero => exact q2.elim
  | succ m =>
    unfold lcF at q2
    split at q2
    · exact q2.elim
    · rename_i ds hds
      have ok2 := ok w2 l2 g2 i ds hds
      cases hd : ds[i]? with
      | none =>
        rw [hd] at q2 ok2
        exact .inl ⟨ok2, q2 _ (drop_le g1 l2 hA) (drop_good g2) rfl A vs (made_of l1 hA g2 o2 h2 r2)⟩
      | some d =>
        rw [hd] at q2 ok2
        obtain ⟨go, y⟩ := ok2
        refine .inr ⟨go, fun H' => St (i + 1) m H', fun H' h => ⟨m, Nat.lt_succ_self m, h⟩, fun x H' hy => ?_⟩
        obtain ⟨w3, l3, g3, e3, _, rfl, r3⟩ := y x H' hy
        have q3 := WpE.le (l2.trans l3) (bind0 q2)
        rw [← e3] at q3
        have rl3 := (rl.leE gd (l1.trans (l2.trans l3))).wiped (own.map (·.2))
        have es : stepC t k fe (wipeE ρ (own.map (·.2))) d w3.st = (match t.bind d (wipeE ρ (own.map (·.2))) with
          | some ρ' => shield (turnC k fe ρ' w3.st)
          | none => .bad) := rfl
        rw [es] at q3
        cases hb : t.bind d (wipeE ρ (own.map (·.2))) with
        | none => rw [hb] at q3; exact q3.elim
        | some ρ3 =>
          rw [hb] at q3
          have q4 := WpE.bind (unshield (show WpE (gc X) W w3 (shield (turnC k fe ρ3 w3.st)) _ from q3))
          refine tgt_okW t d x _ ρ3 _ _ rl3 r3 hb hw fun σ3 rl3' hwi => ⟨hwi.trans wipe_wipe, w3, ρ3, rfl, g3, rl3', q4.mono fun b w4 l4 g4 q5 => ?_⟩
          have k4 := (l3.trans l4)
          cases b with
          | false =>
            refine iteF ?_
            have q6 := WpE.now (a := (none : Option D)) g4 q5
            exact ⟨w4, acc, vs, rfl, l2.trans k4, g4, k4.own A o2, (k4.keep A _ h2 nml).1, r2.leE g2 k4, q6⟩
          | true =>
            refine iteT ⟨w4, ρ3, rfl, g4, rl3'.leE g3 l4, (WpE.bind q5).mono fun z w5 l5 g5 q6 v rz => ?_⟩
            have q7 : WpE (gc X) W w1 (if acc.length < sizeLine then lcF it (stepC t k fe (wipeE ρ (own.map (·.2)))) m (i + 1) (acc ++ [z]) w5.st else .bad) _ := WpE.now (a := some z) g5 q6
            have k5 := k4.trans l5
            have o5 := k5.own A o2
            have h5 := (k5.keep A _ h2 nml).1
            have r5 := r2.leE g2 k5
            split at q7
            · rename_i hz
              have hz' : vs.length < sizeLine := by rw [r5.length]; exact hz
              have rr := r5.append (.cons rz .nil)
              refine ⟨vs, h5, hz', w5.put A (vs ++ [v]), acc ++ [z], vs ++ [v], rfl, put_le (l2.trans k5) hA o5 ⟨_, h5⟩, put_good g5 o5 h5 (by rw [List.length_append, List.length_singleton]; omega), o5, upd_same, RepL.leF g5 (put_lef o5 h5) _ _ rr, q7⟩
            · exact q7.elim
theorem gc_blk (hc : X.calm = true) {s : Shared} {H : Hp} {ce : Env} {fp : List Addr} : gc (X.blk s H scope ce fp) = gc X := by
  have h1 : xof X = none := by unfold xof; rw [hc]; rfl
  have h2 : xof (X.blk s H scope ce fp) = none := by
    unfold xof
    rw [show (X.blk s H scope ce fp).calm = true from hc]; rfl
  show (⟨_, _, _⟩ : Gc) = ⟨_, _, _⟩
  rw [h1, h2]
theorem do_lc (hc : X.calm = true) (hN : X.N.Nodup) (hi : DJ X W tg iter fi) (ok : blkC X.N X.env.scope scope own = true)
    (hg : ∀ (s : Shared) (H : Hp) (C : Addr) (cl : List (Str × Addr)) (fp : List Addr), DG (X.blk s H scope (compEnvC scope cl C X.env) fp) tg t)
    (ht : ∀ (s : Shared) (H : Hp) (C : Addr) (cl : List (Str × Addr)) (fp : List Addr), DTs (X.blk s H scope (compEnvC scope cl C X.env) fp) W0 ifs k)
    (he : ∀ (s : Shared) (H : Hp) (C : Addr) (cl : List (Str × Addr)) (fp : List Addr), DE (X.blk s H scope (compEnvC scope cl C X.env) fp) W0 elt fe)
    (hw : t.within (own.map (·.2)) = true := by decide) (hs : ∀ x, foldedSetIterable iter X.env x = pure x := by intro _; rfl) :
    DO X W (.ListComp elt [⟨tg, iter, ifs, 0⟩] scope pos) (sLc fi t k fe (own.map (·.2))) :=
  ⟨PE_of (pe_lc (g := t.g X.K) (tt := tT (gc X) W0 k) (te := tD (gc X) W0 fe) hc hN hi.pi (blkOk_by ok) (fun s H C cl fp => (hg s H C cl fp).pg) (fun s H C cl fp => by rw [← gc_blk hc]; exact (ht s H C cl fp).pt) (fun s H C cl fp => by rw [← gc_blk hc]; exact (he s H C cl fp).pe) hs) fun σ H Q h => lc_wish hw h⟩
/-- name = [..] on one line -/
theorem ds_setLcO {i : Nat} {y : Str} (hc : X.calm = true) (hN : X.N.Nodup) (hy : X.N[i]? = some y) (hyl : X.env.scope.names.lookup y = some .local)
    (hsw : swapsWith (.ListComp elt [⟨tg, iter, ifs, 0⟩] scope pos) (some (.Name y py)) spos.line X.env = pure true) (hi : DJ X W tg iter fi) (ok : blkC X.N X.env.scope scope own = true)
    (hg : ∀ (s : Shared) (H : Hp) (C : Addr) (cl : List (Str × Addr)) (fp : List Addr), DG (X.blk s H scope (compEnvC scope cl C X.env) fp) tg t)
    (ht : ∀ (s : Shared) (H : Hp) (C : Addr) (cl : List (Str × Addr)) (fp : List Addr), DTs (X.blk s H scope (compEnvC scope cl C X.env) fp) W0 ifs k)
    (he : ∀ (s : Shared) (H : Hp) (C : Addr) (cl : List (Str × Addr)) (fp : List Addr), DE (X.blk s H scope (compEnvC scope cl C X.env) fp) W0 elt fe)
    (hw : t.within (own.map (·.2)) = true := by decide) (hs : ∀ x, foldedSetIterable iter X.env x = pure x := by intro _; rfl) :
    DS X W (.Assign [.Name y py] (.ListComp elt [⟨tg, iter, ifs, 0⟩] scope pos) spos) (qSetO i (sLc fi t k fe (own.map (·.2)))) := by
  refine ⟨PS_of (ps_setLc (g := t.g X.K) (tt := tT (gc X) W0 k) (te := tD (gc X) W0 fe) hc hN hy hyl hsw hi.pi (blkOk_by ok) (fun s H C cl fp => (hg s H C cl fp).pg) (fun s H C cl fp => by rw [← gc_blk hc]; exact (ht s H C cl fp).pt) (fun s H C cl fp => by rw [← gc_blk hc]; exact (he s H C cl fp).pe) hs) fun D0 σ H ⟨w, ρ, e, gd, rl, wp⟩ => ?_⟩
  subst e
  refine lc_wish hw ⟨w, ρ, rfl, gd, rl, (WpS.bindE0 wp).mono fun ds w1 l1 g1 q a vs m => setO_ok gd rl l1 m q⟩
/-- .. frozen -/
theorem ds_setLc {i : Nat} {y : Str} (hc : X.calm = true) (hN : X.N.Nodup) (hy : X.N[i]? = some y) (hyl : X.env.scope.names.lookup y = some .local)
    (hsw : swapsWith (.ListComp elt [⟨tg, iter, ifs, 0⟩] scope pos) (some (.Name y py)) spos.line X.env = pure true) (hi : DJ X W tg iter fi) (ok : blkC X.N X.env.scope scope own = true)
    (hg : ∀ (s : Shared) (H : Hp) (C : Addr) (cl : List (Str × Addr)) (fp : List Addr), DG (X.blk s H scope (compEnvC scope cl C X.env) fp) tg t)
    (ht : ∀ (s : Shared) (H : Hp) (C : Addr) (cl : List (Str × Addr)) (fp : List Addr), DTs (X.blk s H scope (compEnvC scope cl C X.env) fp) W0 ifs k)
    (he : ∀ (s : Shared) (H : Hp) (C : Addr) (cl : List (Str × Addr)) (fp : List Addr), DE (X.blk s H scope (compEnvC scope cl C X.env) fp) W0 elt fe)
    (hw : t.within (own.map (·.2)) = true := by decide) (hs : ∀ x, foldedSetIterable iter X.env x = pure x := by intro _; rfl) :
    DS X W (.Assign [.Name y py] (.ListComp elt [⟨tg, iter, ifs, 0⟩] scope pos) spos) (qSet i (sF (sLc fi t k fe (own.map (·.2))))) := by
  refine ⟨PS_of (ps_setLc (g := t.g X.K) (tt := tT (gc X) W0 k) (te := tD (gc X) W0 fe) hc hN hy hyl hsw hi.pi (blkOk_by ok) (fun s H C cl fp => (hg s H C cl fp).pg) (fun s H C cl fp => by rw [← gc_blk hc]; exact (ht s H C cl fp).pt) (fun s H C cl fp => by rw [← gc_blk hc]; exact (he s H C cl fp).pe) hs) fun D0 σ H ⟨w, ρ, e, gd, rl, wp⟩ => ?_⟩
  subst e
  unfold qSet sF at wp
  refine lc_wish hw ⟨w, ρ, rfl, gd, rl, (WpE.bind (WpS.bindE wp)).mono fun ds w1 l1 g1 q a vs m => ?_⟩
  have q := WpE.now (a := D.lst ds) g1 q
  unfold setV at q
  split at q
  · rename_i hi
    exact WpS.now g1 q _ ((rl.leE gd l1).setVal m.frozen hi)
  · exact q.elim
end
end Ds
set_option Elab.async false
set_option linter.all false
set_option maxRecDepth 100000
set_option maxHeartbeats 1000000
set_option autoImplicit false
/-! DsL: a def's body: what the def is worth. -/
namespace Ds
open PySem PySem.Spec PyProof.Rows L2

def startE (n : Nat) (ds : List D) : En := (ds.map fun d => some (.val d)) ++ List.replicate (n - ds.length) none
def finish : Out Fl → Out SV
  | .ok (.nx _) st => .ok (.val .non) st
  | .ok (.rt r) st => .ok r st
  | .ok (.bk _) _ => .bad
  | .ok (.ct _) _ => .bad
  | .err x _ st => .err x [] st
  | .bad => .bad
/-- n parameters, m slots -/
def defF (n m : Nat) (B : SS) : SemF := fun ds st => if ds.length = n then finish (B (startE m ds) st) else .bad
theorem defF_ar {n m : Nat} {B : SS} (ds : List D) (st : Sto) (h : ds.length ≠ n) : defF n m B ds st = .bad := if_neg h
theorem startE_get {n : Nat} {ds : List D} {i : Nat} {s : Sl} (h : (startE n ds)[i]? = some (some s)) : ∃ d, s = .val d ∧ ds[i]? = some d := by
  unfold startE at h
  by_cases hi : i < ds.length
  · rw [List.getElem?_append_left (by rw [List.length_map]; exact hi), List.getElem?_map, List.getElem?_eq_getElem hi] at h
    cases h
    exact ⟨_, rfl, List.getElem?_eq_getElem hi⟩
  · rw [List.getElem?_append_right (by rw [List.length_map]; omega)] at h
    have := (List.mem_replicate.mp (List.mem_of_getElem? h)).2
    cases this
theorem start_rel {G : Gc} {w : Wd} {N : List Str} {ds : List D} {vs : List V} (r : RepL G.K w ds vs) : RelEn G w (startE N.length ds) (L2.start N vs) where
  len := by
    unfold startE L2.start
    rw [List.length_append, List.length_append, List.length_map, List.length_map, List.length_replicate, List.length_replicate, r.length]
  val := fun i d h => by
    obtain ⟨d', e, h'⟩ := startE_get h
    cases e
    obtain ⟨v, h1, h2⟩ := r.get h'
    refine ⟨v, ?_, h2⟩
    unfold L2.start
    have hl := (List.getElem?_eq_some_iff.mp h1).1
    rw [List.getElem?_append_left (by rw [List.length_map]; exact hl), List.getElem?_map, h1]; rfl
  own := fun i es h => by
    obtain ⟨d', e, h'⟩ := startE_get h
    cases e
  exn := fun i x h => by
    obtain ⟨d', e, h'⟩ := startE_get h
    cases e
  sep := fun i j ds es a h1 h2 h3 h4 => by
    obtain ⟨d', e, h'⟩ := startE_get h1
    cases e
theorem rel_nil {G : Gc} {w : Wd} : RelEn G w [] [] := ⟨rfl, fun i d h => by simp at h, fun i d h => by simp at h, fun i j d e a h => by simp at h, fun i d h => by simp at h⟩
/-- a body's wish from the def's -/
theorem body_wp {G : Gc} {w : Wd} {ρ : En} {B : SS} {Q : VK} {E : XK} {W : WX} (hW : W = fun cls d _ H' => E cls d H') (g : Good G.K w) (no : ∀ a, ¬ w.O a) (h : WpS G W w (finish (B ρ w.st)) (RetOk G w Q)) :
    WpS G W w (B ρ w.st) (EndOk G { nx := fun _ H' => Q .non H', rt := Q, bk := fun _ _ => False, ct := fun _ _ => False }) := by
  cases e : B ρ w.st with
  | bad => rw [e] at h; exact h
  | err x ρ' st =>
    rw [e] at h
    subst hW
    intro w' σ' cls d l g' es rl rx
    exact h w' [] cls d l g' es rel_nil rx
  | ok fl st =>
    rw [e] at h
    cases fl with
    | nx ρ' => exact fun w' l g' es σ rl => h w' l g' es .non rep_non
    | bk ρ' => exact h.elim
    | ct ρ' => exact h.elim
    | rt r =>
      cases r with
      | val d => exact fun w' l g' es v rv => h w' l g' es v rv
      | own ds =>
        intro w' l g' es a vs ha ra oa
        have old : w.H a = none := by
          cases q : w.H a with
          | none => rfl
          | some o =>
            by_cases hm : w.Ml a
            · obtain ⟨n, mo, h1, h2⟩ := hm
              obtain ⟨mo', h3⟩ := l.liv n mo h1
              have hn : n < w.st.length := (List.getElem?_eq_some_iff.mp h1).1
              exact ((g'.mo a ⟨n, mo', h3, by rw [l.mu n hn]; exact h2⟩).1 oa).elim
            · exact ((l.keep a o q hm (no a)).2.2 oa).elim
        have l2 : LeF w (w'.drop a) := l.trans drop_lef
        exact h (w'.drop a) l2 (drop_good g') es a vs ⟨old, ha, fun z => z.2 rfl, by rw [plus_drop oa]; exact g', by rw [plus_drop oa]; exact ra⟩
/-- the context of a def's body -/
abbrev bodyX (P : Program) (w : World) (K : PySem.W.Frag) (mg : Str → Option Value) (base : Heap) (N : List Str) (x : Str) (sc : Scope) (f : Addr) (cdv : Value) (A : Around) (outer : List Env) (s : Shared) (H : Hp) (E : XK) : Cx :=
  cxOf (L2.CX P w) P w K mg base N x sc f cdv A outer s H E
abbrev bodyW (E : XK) : WX := fun cls d _ H => E cls d H
section
variable {P : Program} {w : World} {K : PySem.W.Frag} {mg : Str → Option Value} {base : Heap} {N ps : List Str} {x qual : Str} {pa : Arguments} {bd : List Stmt} {sc : Scope} {dfl : List V} {kws : List (Str × V)} {f : Addr} {fd : FuncData} {k : Nat} {B : SS} {dv : List D}
theorem body_takes {cdv : Value} {A : Around} {outer : List Env} {s : Shared} {H : Hp} {E : XK} : Takes (bodyX P w K mg base N x sc f cdv A outer s H E) (bodyW E) := takes_of rfl rfl rfl rfl
theorem body_passes {cdv : Value} {A : Around} {outer : List Env} {s : Shared} {H : Hp} {E : XK} : PassesOwn (model P w) (bodyX P w K mg base N x sc f cdv A outer s H E).A (bodyX P w K mg base N x sc f cdv A outer s H E).env (bodyX P w K mg base N x sc f cdv A outer s H E).xe := passes_of (X := bodyX P w K mg base N x sc f cdv A outer s H E) rfl
theorem fn_ok (F : FunD K x qual pa bd sc dfl kws f fd) (S : C8.scC N ps sc = true)
    (hbody : ∀ (cdv : Value) (A : Around) (outer : List Env) (s : Shared) (H : Hp) (E : XK), Room k (A.deeper (envOfC qual sc s.heap.objs.size f cdv)) → DSs (bodyX P w K mg base N qual sc f cdv A outer s H E) (bodyW E) bd B) :
    FnOk P w K mg base (L2.CX P w) (k + 1) f fd ps (spF ⟨K, mg, none⟩ ps.length (defF ps.length N.length B)) := by
  refine F.ok (C8.fnScope_by S) (fun vs H Q E h => spF_len h) fun cdv A outer s H vs Q E hr h => ⟨_, (hbody cdv A outer s H E hr).ps, ?_⟩
  obtain ⟨w', ds, rfl, no, g, r, hl, wp⟩ := h
  refine ⟨w', startE N.length ds, rfl, g, start_rel r, ?_⟩
  unfold defF at wp
  rw [if_pos hl] at wp
  exact body_wp rfl g no wp
/-- every parameter is written -/
theorem fd_ok (F : FunD K x x pa bd sc [] kws f fd) (S : C8.scC N ps sc = true) (hm : mg x = some (.ref f))
    (hb : ∀ (kV doc pm : Value) (an : Option Addr) (cdv ct : Value) (us : List Value), us.length = ps.length → bindArgs (PySem.W.fnOf x x pa bd sc .none kV doc pm an cdv ct) ⟨us, []⟩ = pure (ps.zip us))
    (hbody : ∀ (cdv : Value) (A : Around) (outer : List Env) (s : Shared) (H : Hp) (E : XK), Room k (A.deeper (envOfC x sc s.heap.objs.size f cdv)) → DSs (bodyX P w K mg base N x sc f cdv A outer s H E) (bodyW E) bd B) :
    FdOk P w K mg base (k + 1) x ps [] (defF ps.length N.length B) :=
  ⟨⟨f, fd, [], [], hm, F.kp, fn_ok F S hbody, F.bindsN hb, .nil, fun _ => .nil⟩, fun ds st h => defF_ar ds st h⟩
end
end Ds
set_option Elab.async false
set_option linter.all false
set_option maxRecDepth 100000
set_option maxHeartbeats 1000000
set_option autoImplicit false
/-! DsM: own exceptions: made, raised, caught, looked at. -/
namespace Ds
open PySem PySem.Spec PyProof.Rows L2

/-! ### what the head tells of an exception class -/
/-- its object, what is found in it -/
def excObB (K : PySem.W.Frag) (C : Addr) : Bool := match K.lookup C with
  | some ⟨.type t, _, .cls cd, sl⟩ => decide (t = "type") && (decide (cd.mro.head? = some (.ref C)) && (PySem.HandSPX.refsVE cd.mro.tail && (cd.hasDict && (!cd.hasDel && (match sl.toList with
    | [_, _, _, _, some (.builtin nw), _] => decide (nw = "ValueError.__new__")
    | _ => false)))))
  | _ => false
theorem excObB_ok {K : PySem.W.Frag} {C : Addr} (h : excObB K C = true) : ∃ nm q N bs bm sn sub ab col dd k0 k1 k2 k3 k5, K.lookup C = some (excClassObj nm q C N bs bm true sn sub ab col dd k0 k1 k2 k3 k5 "ValueError.__new__") ∧ PySem.HandSPX.refsVE bm = true := by
  unfold excObB at h
  split at h
  · rename_i t dd cd sl hl
    simp only [Bool.and_eq_true, decide_eq_true_eq, Bool.not_eq_true'] at h
    obtain ⟨rfl, h1, h2, h3, h4, h5⟩ := h
    obtain ⟨nm, bs, mro, ns, qn, hd, sn, sb, ab, col, del⟩ := cd
    simp only at h1 h2 h3 h4
    subst h3 h4
    cases mro with
    | nil => cases h1
    | cons c bm =>
      simp only [List.head?_cons, Option.some.injEq, List.tail_cons] at h1 h2
      subst h1
      obtain ⟨l⟩ := sl
      simp only at h5
      split at h5
      · rename_i k0 k1 k2 k3 nw k5
        have e : nw = "ValueError.__new__" := of_decide_eq_true h5
        subst e
        exact ⟨nm, qn, ns, bs, bm, sn, sb, ab, col, dd, k0, k1, k2, k3, k5, hl, h2⟩
      · cases h5
  · cases h
/-- all of it -/
def excAllB (K : PySem.W.Frag) (x : Str) (C : Addr) : Bool :=
  excObB K C && (decide (PySem.W.findIn K (.ref C) "__setattr__" = some (some (.builtin "object.__setattr__"))) && (decide (PySem.W.subIn K (.ref C) (.type "BaseException") = some true) && (decide (PySem.W.typeIn K (.ref C) = some (.type "type")) && (PySem.W.keepIn K (.ref C) &&
  (decide (PySem.W.findIn K (.ref C) "__getattribute__" = some (some (.builtin "BaseException.__getattribute__"))) && (decide (PySem.W.findIn K (.ref C) "__getattr__" = some none) && (PySem.W.hasDictIn K C && (decide (PySem.W.findIn K (.ref C) "__class__" = some (some (.builtin "object.__class__"))) &&
  (decide (PySem.W.specialIn K (.builtin "object.__class__") "__get__" = some (some (.builtin "getset_descriptor.__get__"))) && (decide (PySem.W.takesIn K (.builtin "object.__class__") = some true) && decide (PySem.W.mroIn K C (.type "object") = some true)))))))))))
structure ExK (K : PySem.W.Frag) (C : Addr) : Prop where
  o : OexC K C
  c : ExcC K C
  f : XfC K C
theorem excAllB_ok {K : PySem.W.Frag} {x : Str} {C : Addr} (h : excAllB K x C = true) : ExK K C := by
  unfold excAllB at h
  simp only [Bool.and_eq_true, decide_eq_true_eq] at h
  obtain ⟨h1, h2, h3, h4, h5, h6, h7, h8, h9, h10, h11, h12⟩ := h
  exact ⟨⟨excObB_ok h1, h2, h3, h4, h5⟩, ⟨h6, h7, h3, h8, h9, h10, h11, h12⟩, ⟨h6, h7, h3, h8⟩⟩

/-! ### __init__: each parameter after self goes to a field -/
/-- the fields' names and the slots that they get -/
def fldV (ys : List V) (fs : List Str) : List (Str × V) := (fs.zip ys).reverse
def spInit (C : Addr) (fs : List Str) : Sp := fun vs H Q _ => ∃ (a : Addr) (ys : List V), vs = .ref a :: ys ∧ ys.length = fs.length ∧ H a = some (exo a C none) ∧
  ∀ (dx : Addr) (H' : Hp), H dx = none → dx ≠ a → H' a = some (exo a C (some dx)) → H' dx = some (exd dx (fldV ys fs)) → (∀ b, b ≠ a → b ≠ dx → H' b = H b) → Q .non H'
/-- one field -/
theorem init1 {K : PySem.W.Frag} {C : Addr} {f1 : Str} {vs : List V} {H : Hp} {Q : VK} {E : XK} {N : List Str} (hN : N.length = 2) (T : OexC K C) (h1 : PySem.W.findIn K (.ref C) f1 = some none) (h : spInit C [f1] vs H Q E) :
    tOst K f1 (tVar 0) (tVar 1) { nx := fun _ H' => Q .non H', rt := Q } (L2.start N vs) H := by
  obtain ⟨a, ys, rfl, hl, ha, q⟩ := h
  obtain ⟨y, rfl⟩ : ∃ y, ys = [y] := by
    match ys, hl with
    | [y], _ => exact ⟨y, rfl⟩
  have e : L2.start N [.ref a, y] = [some (.ref a), some y] := by
    unfold L2.start
    rw [hN]; rfl
  rw [e]
  refine ⟨y, rfl, .ref a, rfl, a, C, rfl, T, h1, .inl ⟨ha, fun dx hd hne => ?_⟩⟩
  refine q dx _ hd hne upd_same ?_ fun b n1 n2 => ?_
  · rw [upd_ne hne, upd_same]; rfl
  · rw [upd_ne n1, upd_ne n2]
/-- two -/
theorem init2 {K : PySem.W.Frag} {C : Addr} {f1 f2 : Str} {vs : List V} {H : Hp} {Q : VK} {E : XK} {N : List Str} (hN : N.length = 3) (T : OexC K C) (h1 : PySem.W.findIn K (.ref C) f1 = some none) (h2 : PySem.W.findIn K (.ref C) f2 = some none) (h : spInit C [f1, f2] vs H Q E) :
    tSeq (tOst K f1 (tVar 0) (tVar 1)) (tOst K f2 (tVar 0) (tVar 2)) { nx := fun _ H' => Q .non H', rt := Q } (L2.start N vs) H := by
  obtain ⟨a, ys, rfl, hl, ha, q⟩ := h
  obtain ⟨y, z, rfl⟩ : ∃ y z, ys = [y, z] := by
    match ys, hl with
    | [y, z], _ => exact ⟨y, z, rfl⟩
  have e : L2.start N [.ref a, y, z] = [some (.ref a), some y, some z] := by
    unfold L2.start
    rw [hN]; rfl
  rw [e]
  refine ⟨y, rfl, .ref a, rfl, a, C, rfl, T, h1, .inl ⟨ha, fun dx hd hne => ?_⟩⟩
  refine ⟨z, rfl, .ref a, rfl, a, C, rfl, T, h2, .inr ⟨dx, [(f1, y)], upd_same, ?_, by simp, ?_⟩⟩
  · rw [upd_ne hne, upd_same]
  refine q dx _ hd hne ?_ upd_same fun b n1 n2 => ?_
  · rw [upd_ne hne.symm, upd_same]
  · rw [upd_ne n2, upd_ne n1, upd_ne n2]
/-- three -/
theorem init3 {K : PySem.W.Frag} {C : Addr} {f1 f2 f3 : Str} {vs : List V} {H : Hp} {Q : VK} {E : XK} {N : List Str} (hN : N.length = 4) (T : OexC K C) (h1 : PySem.W.findIn K (.ref C) f1 = some none) (h2 : PySem.W.findIn K (.ref C) f2 = some none) (h3 : PySem.W.findIn K (.ref C) f3 = some none) (h : spInit C [f1, f2, f3] vs H Q E) :
    tSeq (tOst K f1 (tVar 0) (tVar 1)) (tSeq (tOst K f2 (tVar 0) (tVar 2)) (tOst K f3 (tVar 0) (tVar 3))) { nx := fun _ H' => Q .non H', rt := Q } (L2.start N vs) H := by
  obtain ⟨a, ys, rfl, hl, ha, q⟩ := h
  obtain ⟨y, z, u, rfl⟩ : ∃ y z u, ys = [y, z, u] := by
    match ys, hl with
    | [y, z, u], _ => exact ⟨y, z, u, rfl⟩
  have e : L2.start N [.ref a, y, z, u] = [some (.ref a), some y, some z, some u] := by
    unfold L2.start
    rw [hN]; rfl
  rw [e]
  refine ⟨y, rfl, .ref a, rfl, a, C, rfl, T, h1, .inl ⟨ha, fun dx hd hne => ?_⟩⟩
  refine ⟨z, rfl, .ref a, rfl, a, C, rfl, T, h2, .inr ⟨dx, [(f1, y)], upd_same, ?_, by simp, ?_⟩⟩
  · rw [upd_ne hne, upd_same]
  refine ⟨u, rfl, .ref a, rfl, a, C, rfl, T, h3, .inr ⟨dx, [(f2, z), (f1, y)], ?_, upd_same, by simp, ?_⟩⟩
  · rw [upd_ne hne.symm, upd_same]
  refine q dx _ hd hne ?_ upd_same fun b n1 n2 => ?_
  · rw [upd_ne hne.symm, upd_ne hne.symm, upd_same]
  · rw [upd_ne n2, upd_ne n2, upd_ne n1, upd_ne n2]

/-! ### raise C(e, ..) -/
/-- an own class as it stands: its address, its fields, its __init__ -/
structure ExcOk (P : Program) (w : World) (K : PySem.W.Frag) (mg : Str → Option Value) (base : Heap) (x : Str) (fs : List Str) : Prop where
  ex : ∃ (C fI : Addr) (fd : FuncData) (ps : List Str), mg x = some (.ref C) ∧ ExK K C ∧ (∀ f ∈ fs, PySem.W.findIn K (.ref C) f = some none) ∧ PySem.W.findIn K (.ref C) "__init__" = some (some (.ref fI)) ∧ PySem.W.typeIn K (.ref fI) = some (.type "function") ∧
    FnOk P w K mg base (L2.CX P w) 1 fI fd ps (spInit C fs) ∧ Binds K fd ps []
def raiseX (x : Str) (fs : List Str) (ρ : En) (ds : List D) (st : Sto) : Out Fl := if ds.length = fs.length ∧ 0 < fs.length ∧ fs.length ≤ 1000 ∧ fs.Nodup then .err ⟨x, (fs.zip ds).reverse⟩ ρ st else .bad
def qRaise (x : Str) (fs : List Str) (fl : SL) : SS := fun ρ st => (fl ρ st).bind fun ds st1 => raiseX x fs ρ ds st1
theorem lookup1 {α : Type} {f g : Str} {d : α} : [(g, d)].lookup f = if f = g then some d else none := by
  by_cases h : f = g
  · subst h; simp [List.lookup]
  · have e : (f == g) = false := by simpa using h
    rw [if_neg h]; simp [List.lookup, e]
theorem look_rev {α β : Type} {R : α → β → Prop} : ∀ {fs : List Str} {ds : List α} {vs : List β}, ds.length = vs.length → (∀ (i : Nat) (d : α), ds[i]? = some d → ∃ v, vs[i]? = some v ∧ R d v) → ∀ (f : Str) (d : α), (fs.zip ds).reverse.lookup f = some d → fs.Nodup → ∃ v, (fs.zip vs).reverse.lookup f = some v ∧ R d v
  | [], ds, vs, hl, hr, f, d, h, hn => by simp at h
  | g :: fs, [], vs, hl, hr, f, d, h, hn => by simp at h
  | g :: fs, d0 :: ds, [], hl, hr, f, d, h, hn => by simp at hl
  | g :: fs, d0 :: ds, v0 :: vs, hl, hr, f, d, h, hn => by
    rw [List.zip_cons_cons, List.reverse_cons, List.lookup_append] at h
    rw [List.zip_cons_cons, List.reverse_cons, List.lookup_append]
    have hl' : ds.length = vs.length := by simpa using hl
    have hr' : ∀ (i : Nat) (d : α), ds[i]? = some d → ∃ v, vs[i]? = some v ∧ R d v := fun i d e => by simpa using hr (i + 1) d (by simpa using e)
    have hn' := (List.nodup_cons.mp hn)
    cases q : (fs.zip ds).reverse.lookup f with
    | some d1 =>
      rw [q] at h
      cases h
      obtain ⟨v, h1, h2⟩ := look_rev hl' hr' f _ q hn'.2
      exact ⟨v, by rw [h1]; rfl, h2⟩
    | none =>
      rw [q] at h
      have hz : (fs.zip vs).reverse.lookup f = none := by
        cases z : (fs.zip vs).reverse.lookup f with
        | none => rfl
        | some v =>
          have hr2 : ∀ (i : Nat) (d : β), vs[i]? = some d → ∃ v, ds[i]? = some v ∧ True := fun i d e => by
            have hi := (List.getElem?_eq_some_iff.mp e).1
            exact ⟨_, List.getElem?_eq_getElem (by omega), trivial⟩
          obtain ⟨u, h1, _⟩ := look_rev (R := fun (_ : β) (_ : α) => True) hl'.symm hr2 f v z hn'.2
          rw [q] at h1; cases h1
      rw [hz]
      have h' : [(g, d0)].lookup f = some d := h
      rw [lookup1] at h'
      obtain ⟨v, h1, h2⟩ := hr 0 d0 rfl
      cases h1
      by_cases e : f = g
      · rw [if_pos e] at h'
        cases h'
        exact ⟨v0, by show [(g, v0)].lookup f = _; rw [lookup1, if_pos e], h2⟩
      · rw [if_neg e] at h'
        cases h'
theorem ds_raise {X : Cx} {W : WX} {x : Str} {fs : List Str} {e : Expr} {es : List Expr} {fl : SL} {p p2 pos : Pos} (FX : ExcOk X.prog X.w X.K X.mg X.base x fs) (hc : X.calm = true) (tk : Takes X W) (hr : Room 2 X.A) (hg : Gl X x) (ha : DA X W (e :: es) fl)
    (hdb : (x == ("__debug__" : Str)) = false := by decide) (he : starEach (e :: es) X.env = (false, eval e X.env) :: starEach es X.env := by rfl) (hpl : (backTo p2 (starEach es X.env)).any (·.1) = false := by rfl) :
    DS X W (.Raise (some (.Call (.Name x p) (e :: es) [] p2)) none pos) (qRaise x fs fl) := by
  obtain ⟨C, fI, fd, ps, hm, T, hno, iC, tI, F1, hb⟩ := FX.ex
  refine ⟨PS_of (ps_raise hc tk (pmk_oex T.o iC tI F1 hr hb .nil (fun pins σ H s er s' I z => passes_call tk (W := W) (E := fun _ _ _ => False) (fun _ _ _ _ z => z.elim) pins σ H s er s' I z) hg hm ha.pa hdb he hpl)) fun D σ H ⟨w, ρ, e, gd, rl, wp⟩ => ?_⟩
  subst e
  refine ⟨w, ρ, rfl, gd, rl, (WpS.bindE wp).mono fun ds w1 l1 g1 q vs r => ?_⟩
  unfold raiseX at q
  split at q
  · rename_i hz
    obtain ⟨hz, hz0, hz2, hnd⟩ := hz
    refine ⟨by rw [r.length]; omega, fun a hn => ⟨a, vs, by rw [List.append_nil], by rw [r.length, hz], upd_same, fun dx H' hd hne ha' hd' hrest => ?_⟩⟩
    have hd1 : w1.H dx = none := by rw [← hd, upd_ne hne]
    refine ⟨rfl, dx, _, ha', hd', hd1, ?_⟩
    have eH : upd (del H' a) dx (.xd (fldV vs fs)) = upd w1.H dx (.xd (fldV vs fs)) := by
      funext b
      by_cases hb : b = dx
      · rw [hb, upd_same, upd_same]
      · rw [upd_ne hb, upd_ne hb]
        by_cases hba : b = a
        · rw [hba, del_same, hn]
        · rw [del_ne hba, hrest b hba hb, upd_ne hba]
    rw [eH]
    have l2 := LeE.laid g1 hd1 (.xd (fldV vs fs))
    have g2 := g1.laid hd1 (o := .xd (fldV vs fs)) (fun _ e => nomatch e) (fun _ e => nomatch e)
    refine q { w1 with H := upd w1.H dx (.xd (fldV vs fs)) } σ (.ref C) (some dx) l2.toF g2 rfl (rl.leE gd (l1.trans l2)) ⟨hm, .inr ⟨dx, _, rfl, upd_same, (g1.fresh hd1).2.2, fun f d hf => ?_⟩⟩
    exact look_rev (R := fun d v => Rep X.K { w1 with H := upd w1.H dx (.xd (fldV vs fs)) } d v) r.length.symm (fun i d h => by
      obtain ⟨v, h1, h2⟩ := r.get h
      exact ⟨v, h1, h2.leE g1 l2⟩) f d hf hnd
  · exact q.elim
end Ds
set_option Elab.async false
set_option linter.all false
set_option maxRecDepth 100000
set_option maxHeartbeats 2000000
set_option autoImplicit false
/-! DsN: try .. except C as e; what its suite sees of e. -/
namespace PySem.W
open PySem PySem.Spec PySem.Calls PyProof.Rows
section
variable {prog : Program} {w : World} {A : Around} {E : Value → Shared → Prop} {s : Shared} {K : Frag} {x D : Addr} {ox : Obj} {od : Option Obj}
/-- a data descriptor goes ahead of the object's own dict -/
theorem ds_findData {C : Addr} {name : Str} {a g : Value} (hc : (clsIn K C).isSome = true) (ha : findIn K (.ref C) name = some (some a)) (hg : specialIn K a "__get__" = some (some g)) (ht : takesIn K a = some true) : findObj K C od name = some (.bind g a) := by
  obtain ⟨cd, e⟩ := Option.isSome_iff_exists.mp hc
  simp [findObj, e, ha, hg, ht]
/-- x.__class__, x an instance with or without a dict -/
theorem ds_class {Q : Option Value → Shared → Prop} (c : L2.ExcC K D) (X : K.In s.heap) (I : InstAt s.heap x ox D od) (h : Q (some (.ref D)) { s with toks := s.toks + 1 }) : wpAny (model prog w) A (getAttr? (.ref x) "__class__") Q E s := by
  have hf : findObj K D od "__class__" = some (.bind (.builtin "getset_descriptor.__get__") (.builtin "object.__class__")) := ds_findData (by obtain ⟨cd, e, _⟩ := any_some c.hd; rw [e]; rfl) c.ha c.hn c.ht
  obtain ⟨hp, g, d, t, os⟩ := s
  have lt := I.type (M := model prog w)
  have lf := looks_find (M := model prog w) X I hf
  have lb : Looks (model prog w) hp (isInstance (.ref x) (.type "BaseException")) true := lt.andThen (looks_subIn X c.hs)
  have n0 : (Value.builtin "BaseException.__getattribute__" == Value.builtin "object.__getattribute__") = false := by decide +kernel
  unfold getAttr? getAttrBy? getAttrBy
  refine wpAny_bind (wpAny_mkText (wpAny_bind (wpAny_attempt (wpAny_holding (wpAny_bind (lt.at (wpAny_bind ((looks_findIn (M := model prog w) X c.hg).at ?_))))))))
  show wpAny _ _ (if (true && Value.builtin "BaseException.__getattribute__" == Value.builtin "object.__getattribute__") = true then _ else _) _ _ _
  rw [n0, if_neg (by decide)]
  unfold getAttrByItsOwn hookBefore
  refine wpAny_bind ?_
  rw [if_pos (show onTheHeap (Value.ref D) = true from rfl)]
  refine (looks_findIn (M := model prog w) X c.hk).at (wpAny_bind (wpAny_attempt (wpAny_holding ?_)))
  unfold callGetattribute
  rw [show (false && onTheHeap (Value.builtin "BaseException.__getattribute__")) = false from rfl, if_neg Bool.false_ne_true]
  unfold boundAndCalled
  rw [PySem.F.excAttr_ValueError.ga.bind (.ref x)]
  refine wpAny_bind (wpAny_pure (wpAny_call (codeAny_call_builtin PySem.F.excAttr_ValueError.ga.plain PySem.F.entry_bexc_ga (@check_slot (model prog w) _ _ ⟨hp, g, d, t + 1, os⟩ "BaseException.__getattribute__" "BaseException" "__getattribute__" (.ref x) [.str "__class__" t] [] _ (by decide +kernel) (by decide +kernel) lb (PySem.F.args_bexc_ga (.ref x) (.str "__class__" t)) ?_))))
  unfold Builtin.«object.__getattribute__»
  refine wpAny_bind (wpAny_of_eq (a := ((Value.ref x : Value), [Value.str "__class__" t])) (by first | rfl | (simp only [slotArgs]; rfl)) (wpAny_bind (wpAny_pure (wpAny_bind (lt.at (wpAny_bind (lf.at ?_)))))))
  show wpAny _ _ (holding [Value.builtin "object.__class__"] (call (.builtin "getset_descriptor.__get__") [.builtin "object.__class__", .ref x, .ref D]) >>= ret) _ _ _
  refine wpAny_bind (wpAny_holding (wpAny_call (class_get (s := ⟨hp, g, d, t + 1, os⟩) (ox := ox) (od := od) X I c.hm (wpAny_pure ?_))))
  show wpAny _ _ (handedOut (.ref D)) _ _ _
  rw [handedOut_of (v := .ref D) rfl]
  first
    | exact wpAny_pure (wpAny_pure h)
    | exact wpAny_pure h
    | exact wpAny_pure (wpAny_bind (wpAny_pure (wpAny_pure h)))
theorem ds_kitx (c : L2.ExcC K D) : KitX K (.ref x) (.ref D) (fun h => InstAt h x ox D od) where
  ty := fun _ _ _ I => I.type
  it := fun _ _ X _ => by
    obtain ⟨cd, e, _⟩ := any_some c.hd
    unfold clsIn at e
    split at e
    · rename_i c' d' cd' sl' ho
      intro A' Q' E' s' k q
      unfold isType loadHead
      exact wpAny_bind (wpAny_loadPart (k _ _ (X _ _ ho)) (wpAny_pure q))
    · cases e
  ne := fun h tp dd its n sl X htp => by
    obtain ⟨cd, e, _⟩ := any_some c.hd
    refine Bool.eq_false_iff.mpr fun q => ?_
    have e' : D = tp := Value.ref.inj (beq_iff_eq.mp q)
    subst e'
    unfold clsIn at e
    split at e
    · rename_i c' d' cd' sl' ho
      exact nomatch (X _ _ ho).symm.trans htp
    · cases e
  ca := fun X I k => ds_class c X I k
end
end PySem.W
namespace Ds
open PySem PySem.Spec PyProof.Rows L2

/-! ### the slots without exceptions -/
def noExn (ρ : En) : En := ρ.map fun s => match s with
  | some (.exn _) => none
  | s => s
theorem noExn_get {ρ : En} {i : Nat} {s : Sl} (h : (noExn ρ)[i]? = some (some s)) : ρ[i]? = some (some s) ∧ ∀ x, s ≠ .exn x := by
  unfold noExn at h
  rw [List.getElem?_map] at h
  cases e : ρ[i]? with
  | none => rw [e] at h; cases h
  | some o =>
    rw [e] at h
    cases o with
    | none => cases h
    | some s' => cases s' <;> first | (cases h; exact ⟨rfl, fun x z => nomatch z⟩) | cases h
theorem rel_other {G G' : Gc} (hK : G'.K = G.K) {w : Wd} {ρ : En} {σ : L2.St} (r : RelEn G w ρ σ) : RelEn G' w (noExn ρ) σ where
  len := by unfold noExn; rw [List.length_map]; exact r.len
  val := fun i d h => by rw [hK]; exact r.val i d (noExn_get h).1
  own := fun i d h => by rw [hK]; exact r.own i d (noExn_get h).1
  sep := fun i j d e a h1 h2 => r.sep i j d e a (noExn_get h1).1 (noExn_get h2).1
  exn := fun i x h => ((noExn_get h).2 x rfl).elim
theorem rel_drop {G : Gc} {w : Wd} {ρ : En} {σ : L2.St} (r : RelEn G w ρ σ) (i : Nat) : RelEn G w (ρ.set i none) (σ.set i none) where
  len := by rw [List.length_set, List.length_set]; exact r.len
  val := fun j d h => by
    rcases set_get h with ⟨_, q⟩ | ⟨ne, q⟩
    · cases q
    · obtain ⟨v, h1, h2⟩ := r.val j d q
      exact ⟨v, by rw [List.getElem?_set_ne ne]; exact h1, h2⟩
  own := fun j d h => by
    rcases set_get h with ⟨_, q⟩ | ⟨ne, q⟩
    · cases q
    · obtain ⟨a, v, h1, h2⟩ := r.own j d q
      exact ⟨a, v, by rw [List.getElem?_set_ne ne]; exact h1, h2⟩
  sep := fun j k d e a h1 h2 h3 h4 => by
    rcases set_get h1 with ⟨_, q1⟩ | ⟨ne1, q1⟩
    · cases q1
    rcases set_get h2 with ⟨_, q2⟩ | ⟨ne2, q2⟩
    · cases q2
    rw [List.getElem?_set_ne ne1] at h3
    rw [List.getElem?_set_ne ne2] at h4
    exact r.sep j k d e a q1 q2 h3 h4
  exn := fun j x h => by
    rcases set_get h with ⟨_, q⟩ | ⟨ne, q⟩
    · cases q
    · obtain ⟨a, c, d, h1, h2, h3⟩ := r.exn j x q
      exact ⟨a, c, d, h1, by rw [List.getElem?_set_ne ne]; exact h2, h3⟩
theorem rel_exn {G : Gc} {w : Wd} {ρ : En} {σ : L2.St} {a : Addr} {cls : Value} {d : Option Addr} {x : Ex} {i : Nat} (r : RelEn G w ρ σ) (hx : G.ex = some (a, cls, d)) (h : RepX G w x cls d) (hi : i < ρ.length) : RelEn G w (ρ.set i (some (.exn x))) (σ.set i (some (.ref a))) where
  len := by rw [List.length_set, List.length_set]; exact r.len
  val := fun j d h => by
    rcases set_get h with ⟨_, q⟩ | ⟨ne, q⟩
    · cases q
    · obtain ⟨v, h1, h2⟩ := r.val j d q
      exact ⟨v, by rw [List.getElem?_set_ne ne]; exact h1, h2⟩
  own := fun j d h => by
    rcases set_get h with ⟨_, q⟩ | ⟨ne, q⟩
    · cases q
    · obtain ⟨a, v, h1, h2⟩ := r.own j d q
      exact ⟨a, v, by rw [List.getElem?_set_ne ne]; exact h1, h2⟩
  sep := fun j k d e a h1 h2 h3 h4 => by
    rcases set_get h1 with ⟨_, q1⟩ | ⟨ne1, q1⟩
    · cases q1
    rcases set_get h2 with ⟨_, q2⟩ | ⟨ne2, q2⟩
    · cases q2
    rw [List.getElem?_set_ne ne1] at h3
    rw [List.getElem?_set_ne ne2] at h4
    exact r.sep j k d e a q1 q2 h3 h4
  exn := fun j y hj => by
    rcases set_get hj with ⟨e, q⟩ | ⟨ne, q⟩
    · subst e
      cases q
      exact ⟨a, cls, d, hx, List.getElem?_set_self (by rw [← r.len]; exact hi), h⟩
    · obtain ⟨b, c, d', h1, h2, h3⟩ := r.exn j y q
      exact ⟨b, c, d', h1, by rw [List.getElem?_set_ne ne]; exact h2, h3⟩

/-! ### try -/
def unexn (i : Nat) : Out Fl → Out Fl
  | .ok (.nx ρ) st => .ok (.nx ((noExn ρ).set i none)) st
  | .ok (.bk ρ) st => .ok (.bk ((noExn ρ).set i none)) st
  | .ok (.ct ρ) st => .ok (.ct ((noExn ρ).set i none)) st
  | .ok (.rt r) st => .ok (.rt r) st
  | .err _ _ _ => .bad
  | .bad => .bad
/-- sub: is the class, by its name, one that the clause takes -/
def qTryAs (sub : Str → Option Bool) (i : Nat) (f g : SS) : SS := fun ρ st => match f ρ st with
  | .ok fl st1 => .ok fl st1
  | .bad => .bad
  | .err x ρ1 st1 => match sub x.cls with
    | none => .bad
    | some false => .err x ρ1 st1
    | some true => if i < ρ1.length then unexn i (g ((noExn ρ1).set i (some (.exn x))) st1) else .bad
/-- the table of an except clause -/
def SubOk (K : PySem.W.Frag) (mg : Str → Option Value) (c : Value) (sub : Str → Option Bool) : Prop := ∀ nm b cls, sub nm = some b → mg nm = some cls → PySem.W.exmOne K cls c = some b
section
variable {X : Cx} {W : WX} {x n : Str} {c : Value} {i : Nat} {body suite : List Stmt} {b₀ : Stmt} {np pos pos' p p1 p2 : Pos} {f g : SS} {sub : Str → Option Bool}
theorem gc_tr (hc : X.calm = true) {pn : List (Addr × Obj)} {xe : Value → Shared → Prop} : gc (X.tr pn xe) = gc X := by
  have h1 : xof X = none := by unfold xof; rw [hc]; rfl
  have h2 : xof (X.tr pn xe) = none := by
    unfold xof
    rw [show (X.tr pn xe).calm = true from hc]; rfl
  show (⟨_, _, _⟩ : Gc) = ⟨_, _, _⟩
  rw [h1, h2]
theorem gc_suite {a : Addr} {oe : Obj} {cls : Value} {d : Option Addr} {pn : List (Addr × Obj)} (hz : Zc cls d oe) : gc (X.suite a ((a, oe) :: pn)) = ⟨X.K, X.mg, some (a, cls, d)⟩ := by
  obtain ⟨h1, h2⟩ := hz
  subst h1 h2
  rfl
theorem ds_tryAs (hc : X.calm = true) (hs : X.stack = X.env :: X.outer) (hf : X.env.frame = some X.env.locals) (hN : X.N.Nodup) (hi : X.N[i]? = some n) (hln : X.env.kindOf n = some .local) (hn : Names X x c) (tk : Takes X W) (hsub : SubOk X.K X.mg c sub)
    (hb : ∀ (W' : WX) (pn : List (Addr × Obj)) (xe : Value → Shared → Prop), Takes (X.tr pn xe) W' → PassesOwn (model X.prog X.w) X.A X.env xe → DSs (X.tr pn xe) W' body f)
    (hsu : ∀ (a : Addr) (oe : Obj) (pn : List (Addr × Obj)), (∃ vs, oe.data = .fields vs) → DSs (X.suite a ((a, oe) :: pn)) W0 (b₀ :: suite) g) :
    DS X W (.Try body [.ExceptHandler (some (.Name x np)) (some n) (b₀ :: suite) pos'] [] [] pos) (qTryAs sub i f g) := by
  refine ⟨PS_of (ps_try_as (ts := fun a cls d => tS ⟨X.K, X.mg, some (a, cls, d)⟩ W0 g) (tb := fun W' => tS (gc X) W' f) hs hf hN hi hln hn tk (fun W' pn xe t1 t2 => by rw [← gc_tr hc]; exact (hb W' pn xe t1 t2).ps)
    (fun a oe cls d pn hz hv => by rw [← gc_suite hz]; exact (hsu a oe pn hv).ps)) fun D σ H ⟨w, ρ, e, gd, rl, wp⟩ => ?_⟩
  subst e
  refine ⟨w, ρ, rfl, gd, rl, ?_⟩
  unfold qTryAs at wp
  cases hf : f ρ w.st with
  | bad => rw [hf] at wp; exact wp
  | ok fl st => rw [hf] at wp; exact wp
  | err y ρ1 st =>
    rw [hf] at wp
    simp only at wp
    intro w' σ' cls d l g' es rl' rx
    cases hsb : sub y.cls with
    | none => rw [hsb] at wp; exact wp.elim
    | some b =>
      rw [hsb] at wp
      refine ⟨b, hsub _ b cls hsb rx.1, fun eb a na => ?_, fun eb => ?_⟩
      · subst eb
        simp only at wp
        split at wp
        · rename_i hil
          have r1 : RelEn ⟨X.K, X.mg, some (a, cls, d)⟩ w' (noExn ρ1) σ' := rel_other (G := gc X) (G' := ⟨X.K, X.mg, some (a, cls, d)⟩) rfl rl'
          have hil' : i < (noExn ρ1).length := by unfold noExn; rw [List.length_map]; exact hil
          refine ⟨w', _, rfl, g', rel_exn r1 rfl rx hil', ?_⟩
          have wp' : WpS (gc X) W w' (unexn i (g ((noExn ρ1).set i (some (.exn y))) w'.st)) (EndOk (gc X) D) := WpS.le l (by rw [es]; exact wp)
          have back : ∀ {ρ2 : En} {w2 : Wd} {σ2 : L2.St}, RelEn ⟨X.K, X.mg, some (a, cls, d)⟩ w2 ρ2 σ2 → RelEn (gc X) w2 ((noExn ρ2).set i none) (σ2.set i none) := fun r => rel_drop (rel_other (G := ⟨X.K, X.mg, some (a, cls, d)⟩) (G' := gc X) rfl r) i
          cases hg : g ((noExn ρ1).set i (some (.exn y))) w'.st with
          | bad => rw [hg] at wp'; exact wp'.elim
          | err z ρ2 st2 => rw [hg] at wp'; exact wp'.elim
          | ok fl st2 =>
            rw [hg] at wp'
            cases fl with
            | nx ρ2 => exact fun w2 l2 g2 e2 σ2 r2 => wp' w2 l2 g2 e2 _ (back r2)
            | bk ρ2 => exact fun w2 l2 g2 e2 σ2 r2 => wp' w2 l2 g2 e2 _ (back r2)
            | ct ρ2 => exact fun w2 l2 g2 e2 σ2 r2 => wp' w2 l2 g2 e2 _ (back r2)
            | rt r => cases r <;> exact wp'
        · exact wp.elim
      · subst eb
        exact wp w' σ' cls d l g' es rl' rx

/-! ### the suite's look at e -/
/-- e.f -/
def sExF (okc : Str → Bool) (i : Nat) (f : Str) : SE := fun ρ st => match ρ[i]? with
  | some (some (.exn x)) => if okc x.cls = true then (match x.fs.lookup f with
    | some d => .ok d st
    | none => .bad) else .bad
  | _ => .bad
theorem de_exF {a : Addr} {oe : Obj} {pn : List (Addr × Obj)} {okc : Str → Bool} {fl : Str} (hv : ∃ vs, oe.data = .fields vs) (hx : ∀ nm cls, okc nm = true → X.mg nm = some cls → ∃ C, cls = .ref C ∧ XfC X.K C ∧ PySem.W.findIn X.K (.ref C) fl = some none)
    (hN : X.N[i]? = some n) (hvis : Vis X.env.scope n) (hb : attributeBase (.Name n p1) fl (X.suite a ((a, oe) :: pn)).env (eval (.Name n p1) (X.suite a ((a, oe) :: pn)).env) = eval (.Name n p1) (X.suite a ((a, oe) :: pn)).env := by rfl)
    (hd : (n == ("__debug__" : Str)) = false := by decide) (hcd : (n == ("__classdict__" : Str)) = false := by decide) : DE (X.suite a ((a, oe) :: pn)) W (.Attribute (.Name n p1) fl pos) (sExF okc i fl) := by
  refine ⟨⟨fun pins s σ H Q I ⟨w, ρ, e, gd, rl, wp⟩ => ?_⟩⟩
  subst e
  unfold sExF at wp
  split at wp
  · rename_i y hy
    split at wp
    · rename_i ho
      split at wp
      · rename_i d hd'
        obtain ⟨a', cls', d', h1, h2, h3, h4⟩ := rl.exn i y hy
        have h1' : (some (a, oe.cls, oe.dict) : Option (Addr × Value × Option Addr)) = some (a', cls', d') := h1
        simp only [Option.some.injEq, Prod.mk.injEq] at h1'
        obtain ⟨rfl, rfl, rfl⟩ := h1'
        obtain ⟨C, hC, T, hno⟩ := hx _ _ ho h3
        rcases h4 with ⟨h4, _⟩ | ⟨dd, fvs, h5, h6, _, h7⟩
        · rw [h4] at hd'; cases hd'
        · obtain ⟨v, q1, q2⟩ := h7 _ _ hd'
          refine (pe_xf (cls := oe.cls) (d := oe.dict) T hno ⟨rfl, rfl⟩ hv (pe_var hN hvis hd hcd) hb).run pins s σ w.H Q I ⟨_, h2, rfl, hC, dd, fvs, v, h5, h6, q1, WpE.now gd wp v q2⟩
      · exact wp.elim
    · exact wp.elim
  · exact wp.elim
/-- isinstance(e, Y), Y an own class -/
def sIsE (sub : Str → Option Bool) (i : Nat) : SE := fun ρ st => match ρ[i]? with
  | some (some (.exn x)) => (match sub x.cls with
    | some b => .ok (.bl b) st
    | none => .bad)
  | _ => .bad
theorem call_isX {a C : Addr} {oe : Obj} {pn : List (Addr × Obj)} {pins : List (Addr × Obj)} {s : Shared} {σ : L2.St} {H : Hp} {Q : VK} {cv : Value} {b : Bool} (c : ExcC X.K C) (I : Inv (X.suite a ((a, oe) :: pn)) pins σ H s) (hv : ∃ vs, oe.data = .fields vs) (hc : oe.cls = .ref C)
    (hd : oe.dict = none ∨ ∃ dd fvs, oe.dict = some dd ∧ H dd = some (.xd fvs)) (e : PySem.W.kitOne X.K (.ref C) cv = some b) (q : Q (.bl b) H) :
    wpAny (model X.prog X.w) (X.suite a ((a, oe) :: pn)).A (call (.builtin "isinstance") [.ref a, cv]) (EP (X.suite a ((a, oe) :: pn)) pins σ Q) (X.suite a ((a, oe) :: pn)).xe s := by
  obtain ⟨hget, _⟩ := I.pin (a, oe) (List.mem_append.mpr (.inl List.mem_cons_self))
  obtain ⟨vs, hv⟩ := hv
  have J : ∃ od, PySem.W.InstAt s.heap a oe C od := by
    obtain ⟨oc, oda, odt, osl⟩ := oe
    simp only at hc hv hd
    subst hc hv
    rcases hd with hd | ⟨dd, fvs, hd, hh⟩
    · subst hd
      exact ⟨none, hget, rfl, rfl, trivial⟩
    · subst hd
      have hx : ObjOk X.prog X.w H s.heap dd (.xd fvs) := I.hok dd _ hh
      obtain ⟨mA, hns, _⟩ := hx
      obtain ⟨od, ho, _⟩ := lookIn_ns hns
      exact ⟨some od, hget, rfl, rfl, ho⟩
  obtain ⟨od, J⟩ := J
  exact PySem.W.kia_one (PySem.W.ds_kitx c) I.kIn J e (fun z => nomatch z) fun tk => ⟨.bl b, H, I.kept (t' := tk) fun _ _ z => z, rfl, q⟩
def rIsX (K : PySem.W.Frag) (a : Addr) (oe : Obj) : List V → Hp → VK → Prop := fun xs H Q => ∃ (C Y : Addr) (b : Bool), xs = [.ref a, .ref Y] ∧ ExcC K C ∧ oe.cls = .ref C ∧ (oe.dict = none ∨ ∃ dd fvs, oe.dict = some dd ∧ H dd = some (.xd fvs)) ∧ PySem.W.kitOne K (.ref C) (.ref Y) = some b ∧ Q (.bl b) H
theorem callR_isX {a : Addr} {oe : Obj} {pn : List (Addr × Obj)} (hv : ∃ vs, oe.data = .fields vs) : CallR (X.suite a ((a, oe) :: pn)) (.builtin "isinstance") (rIsX X.K a oe) := by
  intro pins s σ H xs us Q I r h
  obtain ⟨C, Y, b, rfl, c, hc, hd, e, q⟩ := h
  cases r with
  | cons rx rr =>
    cases rr with
    | cons rt rr =>
      cases rr
      cases rx
      cases rt
      exact call_isX c I hv hc hd e q
theorem de_isE {a : Addr} {oe : Obj} {pn : List (Addr × Obj)} {y : Str} {Y : Addr} (hv : ∃ vs, oe.data = .fields vs) (hY : X.mg y = some (.ref Y)) (hx : ∀ nm b cls, sub nm = some b → X.mg nm = some cls → ∃ C, cls = .ref C ∧ ExcC X.K C ∧ PySem.W.kitOne X.K (.ref C) (.ref Y) = some b)
    (hg : Gl (X.suite a ((a, oe) :: pn)) "isinstance") (hm : X.mg "isinstance" = none) (hg2 : Gl (X.suite a ((a, oe) :: pn)) y) (hN : X.N[i]? = some n) (hvis : Vis X.env.scope n)
    (hd : (n == ("__debug__" : Str)) = false := by decide) (hcd : (n == ("__classdict__" : Str)) = false := by decide) (hdy : (y == ("__debug__" : Str)) = false := by decide)
    (h1 : starEach [Expr.Name y p2] (X.suite a ((a, oe) :: pn)).env = (false, eval (Expr.Name y p2) (X.suite a ((a, oe) :: pn)).env) :: starEach [] (X.suite a ((a, oe) :: pn)).env := by rfl)
    (he : starEach (Expr.Name n p1 :: [Expr.Name y p2]) (X.suite a ((a, oe) :: pn)).env = (false, eval (Expr.Name n p1) (X.suite a ((a, oe) :: pn)).env) :: starEach [Expr.Name y p2] (X.suite a ((a, oe) :: pn)).env := by rfl)
    (hpl : (backTo pos (starEach [Expr.Name y p2] (X.suite a ((a, oe) :: pn)).env)).any (·.1) = false := by rfl) :
    DE (X.suite a ((a, oe) :: pn)) W (.Call (.Name "isinstance" p) [.Name n p1, .Name y p2] [] pos) (sIsE sub i) := by
  refine ⟨PE_of (pe_callB (callR_isX hv) hg hm (by decide +kernel) (pa_cons (pe_var hN hvis hd hcd) (pa_cons (pe_glob (v := V.ref Y) hg2 hY rfl hdy) pa_nil h1) he) (by decide) (by decide) he hpl) fun σ H Q ⟨w, ρ, e, gd, rl, wp⟩ => ?_⟩
  subst e
  unfold sIsE at wp
  split at wp
  · rename_i z hz
    split at wp
    · rename_i b hb
      obtain ⟨a', cls', d', h1, h2, h3, h4⟩ := rl.exn i z hz
      have h1' : (some (a, oe.cls, oe.dict) : Option (Addr × Value × Option Addr)) = some (a', cls', d') := h1
      simp only [Option.some.injEq, Prod.mk.injEq] at h1'
      obtain ⟨rfl, rfl, rfl⟩ := h1'
      obtain ⟨C, hC, T, hk⟩ := hx _ _ _ hb h3
      refine ⟨_, h2, C, Y, b, rfl, T, hC, ?_, hk, WpE.now gd wp _ rep_bl⟩
      rcases h4 with ⟨_, h4⟩ | ⟨dd, fvs, h5, h6, _⟩
      · exact .inl h4
      · exact .inr ⟨dd, fvs, h5, h6⟩
    · exact wp.elim
  · exact wp.elim
end
end Ds
set_option Elab.async false
set_option linter.all false
set_option maxRecDepth 100000
set_option maxHeartbeats 3200000
set_option autoImplicit false
/-! DsO: the size of a set of texts; list.remove of a text; text * int. -/
namespace Ds
open PySem PySem.Spec PyProof.Rows L2

/-! ### the texts met so far, each once -/
def metS (acc : List Str) (x : Str) : List Str := if acc.any (· == x) then acc else acc ++ [x]
def onceS (xs : List Str) : List Str := xs.foldl metS []
theorem onceS_snoc (xs : List Str) (x : Str) : onceS (xs ++ [x]) = metS (onceS xs) x := by unfold onceS; rw [List.foldl_append]; rfl
theorem metS_any (acc : List Str) (x k : Str) : (metS acc x).any (· == k) = (acc.any (· == k) || decide (k = x)) := by
  unfold metS
  by_cases h : acc.any (· == x) = true
  · rw [if_pos h]
    by_cases e : k = x
    · rw [e, h]; simp
    · rw [decide_eq_false e, Bool.or_false]
  · rw [if_neg h, List.any_append]
    by_cases e : k = x
    · simp [e]
    · have z : (x == k) = false := by simpa [beq_iff_eq] using fun q : x = k => e q.symm
      simp [z, e]
theorem metS_len (acc : List Str) (x : Str) : (metS acc x).length = if acc.any (· == x) then acc.length else acc.length + 1 := by
  unfold metS; split <;> simp
theorem onceS_le (xs : List Str) : (onceS xs).length ≤ xs.length := by
  suffices h : ∀ (ys acc : List Str), (ys.foldl metS acc).length ≤ acc.length + ys.length by simpa [onceS] using h xs []
  intro ys
  induction ys with
  | nil => intro acc; simp
  | cons y ys ih =>
    intro acc
    refine Nat.le_trans (ih (metS acc y)) ?_
    rw [metS_len, List.length_cons]
    split <;> omega
section
variable {prog : Program} {w : World} {A : Around} {R : Result → Shared → Prop} {J : Addr} {fp wr : List Addr} {G : Array GenState → Array GenState → Prop} {n : Nat} {P : Nat → Value → Prop} {St : Nat → Shared → Prop}
theorem set_stays {s s' : Shared} {Z : Addr} {S : Str → Bool} {m : Nat} (h : s.heap.SetOf (strKind prog w) Z S m) (mv : Moved wr G s s') (hz : Z ∉ wr) : s'.heap.SetOf (strKind prog w) Z S m := by
  obtain ⟨o, es, ep, tb, ho, rest⟩ := h
  exact ⟨o, es, ep, tb, mv.heap Z _ hz ho, rest⟩
theorem strs_loop (W : WalksS prog w A.in1 J fp wr G n P St) (Z : Addr) (zf : Z ∉ fp) (xs : List Str) (hn : xs.length = n) (hb : n + 1 < scanBound) (hv : ∀ i v, P i v → ∃ t, v = .str (xs.getD i Str.empty) t) :
    ∀ (k i : Nat) (s : Shared), n - i = k → i ≤ n → St i s → s.heap.SetOf (strKind prog w) Z (fun y => (onceS (xs.take i)).any (· == y)) (onceS (xs.take i)).length →
      (∀ s', Moved (Z :: wr) G s s' → s'.heap.SetOf (strKind prog w) Z (fun y => (onceS xs).any (· == y)) (onceS xs).length → R (.ok (.ret .none)) s') →
      codeAny (model prog w) A (.builtin "set.update.loop" ⟨[.ref Z, .ref J], []⟩) R s := by
  have zw : Z ∉ wr := fun q => zf (W.sub _ q)
  have up : ∀ b ∈ wr, b ∈ Z :: wr := fun b q => List.mem_cons_of_mem _ q
  intro k
  induction k with
  | zero =>
    intro i s hk hi st0 z0 fin
    have e : i = n := by omega
    have et : xs.take i = xs := by rw [e, ← hn, List.take_length]
    rw [e] at st0
    rw [et] at z0
    refine codeAny_builtin PyProof.Rows.F.entry_set_update_loop ?_
    rw [Around.under_plainId PyProof.Rows.F.plain_set_update_loop _]
    exact wpAny_bind (W.done s _ _ st0 fun s1 mv => wpAny_pure (fin s1 (mv.mono up) (set_stays z0 mv zw)))
  | succ k ih =>
    intro i s hk hi st0 z0 fin
    have lt : i < n := by omega
    refine codeAny_builtin PyProof.Rows.F.entry_set_update_loop ?_
    rw [Around.under_plainId PyProof.Rows.F.plain_set_update_loop _]
    refine wpAny_bind (W.item i s _ _ lt st0 fun v s1 pv st1 mv => ?_)
    obtain ⟨t, rfl⟩ := hv i v pv
    have z1 := set_stays z0 mv zw
    show wpAny _ A.in1 (holding [Value.str (xs.getD i Str.empty) t] (setAdd Z (.str (xs.getD i Str.empty) t)) >>= _) _ _ s1
    refine wpAny_bind (wpAny_holding ?_)
    unfold setAdd
    refine wpAny_holding (wpAny_bind ((strKind prog w).pyHash (k := xs.getD i Str.empty) (strKind_is _ _ _ _) ?_))
    have room : (onceS (xs.take i)).length + 1 < scanBound := by
      have := onceS_le (xs.take i)
      rw [List.length_take] at this
      omega
    have e1 : xs.take (i + 1) = xs.take i ++ [xs.getD i Str.empty] := by
      have li : i < xs.length := by omega
      rw [List.take_succ_eq_append_getElem li, List.getD_eq_getElem?_getD, List.getElem?_eq_getElem li]; rfl
    refine wpAny_setAddHashed_of (knd := strKind prog w) (s := { s1 with toks := s1.toks + 1 }) (strKind_is _ _ _ _) rfl z1 room fun h2 sb z2 => ?_
    have z3 : h2.SetOf (strKind prog w) Z (fun y => (onceS (xs.take (i + 1))).any (· == y)) (onceS (xs.take (i + 1))).length :=
      SetOf_congr z2 (fun y => by rw [e1, onceS_snoc, metS_any]) (by rw [e1, onceS_snoc, metS_len])
    refine wpAny_pure ⟨plainId_quiet PyProof.Rows.F.plain_set_update_loop _, ih (i + 1) _ (by omega) lt (W.frame _ s1 _ _ st1 (Nat.le_succ _) fun b q o e => (sb.2 b fun z => zf (by rw [← z]; exact q)).trans e) z3 fun s2 mv2 z4 => ?_⟩
    exact fin s2 (Moved.trans W.gtrans ((mv.mono up).then_heap (Nat.le_succ _) fun b o q e => (sb.2 b fun z => q (by rw [z]; exact List.mem_cons_self)).trans e) mv2) z4
end
section
variable {prog : Program} {w : World} {A : Around} {E : Value → Shared → Prop} {s : Shared}
/-- the set that is being made -/
abbrev newS (led : Bool) : Obj := { cls := .type "set", dict := none, data := .set #[] 0 (.fresh 0 0 led) }
theorem call_set_strs {l : Addr} {its : Array Value} {xs : List Str} {Q : Value → Shared → Prop} (hh : A.handled = none) (hl : s.heap.IsList l its) (hi : StrsAre its.toList xs) (hb : its.size + 1 < scanBound)
    (fin : ∀ (h' : Heap) (tk : Nat), h'.SetOf (strKind prog w) s.heap.objs.size (fun y => (onceS xs).any (· == y)) (onceS xs).length → (∀ b o, b < s.heap.objs.size → s.heap.get? b = some o → h'.get? b = some o) →
      Q (.ref s.heap.objs.size) { s with heap := h', toks := tk }) : wpAny (model prog w) A (call (.type "set") [.ref l]) Q E s := by
  obtain ⟨cc, tl, hmro⟩ := PySem.F.called_set.mro
  have m1 := PySem.F.called_set.made
  have m2 := PySem.F.called_set.sub
  refine wpAny_call (codeAny_of_tree (wpAny_pure ⟨Code.quiet_builtin _ (by decide +kernel), codeAny_builtin PySem.F.entry_type_call ?_⟩))
  rw [Around.under_plain (weight_type_call_type "set" [.ref l] []) rfl]
  have m3 := PySem.F.called_set.notType
  have m4 := PySem.F.called_set.canCreate
  have m5 := PySem.F.typeCall_set_1 (.ref l)
  repeat (any_goals (first | assumption | wp_step))
  refine codeAny_mono (code_set_new_1 (.ref l) (E := E) (Q₁ := fun ob s1 => ∃ led : Bool, ob = .ref s.heap.objs.size ∧ s1 = { s with heap := s.heap.push (newS led) }) fun led => ⟨led, rfl, rfl⟩) fun r s1 hr => ?_
  cases r with
  | error e => exact hr
  | ok fl =>
    cases fl with
    | ret ob =>
      obtain ⟨led, rfl, rfl⟩ := hr
      have ho : (s.heap.push (newS led)).get? s.heap.objs.size = some (newS led) := Heap.get?_push_size _ rfl
      have ht : Shared.TypeIs { s with heap := s.heap.push (newS led) } (.ref s.heap.objs.size) "set" := ⟨_, ho, rfl⟩
      have m6 := PySem.F.called_set.init.lookup
      have m7 := PySem.F.called_set.init.bind (.ref s.heap.objs.size)
      repeat (any_goals (first | assumption | wp_step))
      refine codeAny_mono (codeAny_call_builtin (R := wants (fun r s2 => r = .none ∧ ∃ h' tk, s2 = { s with heap := h', toks := tk } ∧ h'.SetOf (strKind prog w) s.heap.objs.size (fun y => (onceS xs).any (· == y)) (onceS xs).length ∧
        (∀ b o, b < s.heap.objs.size → s.heap.get? b = some o → h'.get? b = some o)) E) PySem.F.called_set.init.plain PySem.F.entry_set_init (check_set_init_1 ht ?_)) fun r2 s2 hr2 => ?_
      · obtain ⟨⟨lc, ld, ldt, lsl⟩, hol, hc, nl, hd⟩ := hl
        simp only at hc hd
        subst hc
        subst hd
        have hol2 : (s.heap.push (newS led)).get? l = some { cls := .type "list", dict := ld, data := .seq its nl, slots := lsl } := Heap.get?_push_of_some _ hol
        have m8 := PySem.F.sub_list_set
        have m9 := PySem.F.sub_list_frozenset
        have ma : (Value.type "list" == Value.type "dict") = false := by decide
        have isl : (s.heap.push (newS led)).IsList l its := ⟨_, hol2, rfl, nl, rfl⟩
        unfold Builtin.«set.__init__» noKeywords Builtin.Frozenset.updateFrom
        generalize hpy : pyIter = PY
        wp_walk
        subst hpy
        refine wpAny_pyIter_list isl (wpAny_bind (wpAny_runValue ?_))
        have lo : l < s.heap.objs.size := Heap.lt_size hol
        have h3 : A.in1.in1.in1.handled = none := by simp [hh]
        have zl : l ≠ (s.heap.push (newS led)).objs.size := by
          rw [Heap.size_push]
          exact Nat.ne_of_lt (Nat.lt_succ_of_lt lo)
        have zf : s.heap.objs.size ∉ [(s.heap.push (newS led)).objs.size, l] := by
          rw [Heap.size_push]
          simp only [List.mem_cons, List.not_mem_nil, or_false, not_or]
          exact .intro (Nat.ne_of_lt (Nat.lt_succ_self _)) (Nat.ne_of_gt lo)
        have hsz : xs.length = its.size := by rw [← StrsAre.len_eq hi, Array.length_toList]
        refine strs_loop ((Walks.list h3 _ l zl its).toS) s.heap.objs.size zf xs hsz hb (fun i v q => SS.strs_at hi i v (by rw [Array.getElem?_toList]; exact q)) (its.size - 0) 0 _ (by omega) (Nat.zero_le _) ⟨⟨_, Heap.get?_push_size _ rfl, rfl, rfl⟩, isl.push _⟩ ?_ ?_
        · have hz : ((s.heap.push (newS led)).push { cls := .type "list_iterator", data := .fields #[.ref l, .int 0 0] }).get? s.heap.objs.size = some (newS led) := Heap.get?_push_of_some _ ho
          exact SetOf_congr ((setObjOf_fresh (knd := strKind prog w) led).setOf hz (by unfold scanBound; omega)) (fun _ => rfl) rfl
        · intro s3 mv z3
          obtain ⟨h', g', d', tk', os'⟩ := s3
          obtain rfl : g' = s.gens := mv.gens
          obtain rfl : d' = s.drawn := mv.drawn
          obtain rfl : os' = s.os := mv.os
          refine wpAny_pure (wpAny_pure ⟨rfl, h', tk', rfl, z3, fun b o q e => ?_⟩)
          refine mv.heap b o ?_ (Heap.get?_push_of_some _ (Heap.get?_push_of_some _ e))
          rw [Heap.size_push]
          simp only [List.mem_cons, List.not_mem_nil, or_false, not_or]
          exact .intro (Nat.ne_of_lt q) (Nat.ne_of_lt (Nat.lt_succ_of_lt q))
      · cases r2 with
        | error e => exact hr2
        | ok fl2 =>
          cases fl2 with
          | ret r =>
            obtain ⟨rfl, h', tk, rfl, z3, kk⟩ := hr2
            repeat (any_goals (first | assumption | wp_step))
            exact fin _ _ z3 kk
          | _ => exact hr2.elim
    | _ => exact hr.elim
end
/-! ### len(set(xs)), xs a list of texts -/
section
variable {X : Cx} {W : WX} {e a b c : Expr} {es : List Expr} {f g : SE} {fl : SL} {pos p p2 q : Pos}
def lenSetD (d : D) (st : Sto) : Out D := match d with
  | .lst ds => (match strsOf ds with
    | some xs => if xs.length < 4000 then .ok (.int (onceS xs).length) st else .bad
    | none => .bad)
  | _ => .bad
theorem de_lenSet (hc : X.calm = true) (hg : Gl X "len") (hm : X.mg "len" = none) (hg2 : Gl X "set") (hm2 : X.mg "set" = none) (ha : DV X W a f)
    (na : starEach [a] X.env = (false, eval a X.env) :: starEach [] X.env := by rfl) : DE X W (.Call (.Name "len" p) [.Call (.Name "set" p2) [a] [] q] [] pos) (s1 lenSetD f) := by
  refine ⟨⟨fun pins s σ H Q I ⟨w, ρ, e, gd, rl, wp⟩ => ?_⟩⟩
  subst e
  refine Call_ (ld_blt I hg hm PySem.boot_len ?_)
  refine PyProof.Rows.callWith_builtin1 (PyProof.Rows.args_cons ?_ rfl) rfl rfl
  refine Call_ (ld_blt I hg2 hm2 (by decide +kernel : bootBuiltins "set" = some (.type "set")) ?_)
  refine PyProof.Rows.callWith_type1 (PyProof.Rows.args_cons (thn (ha.pe.run pins s σ w.H (fun v H1 => ∃ (l : Addr) (xs : List Str), v = .ref l ∧ H1 l = some (.lst (xs.map V.str)) ∧ xs.length < 4000 ∧ Q (.int (onceS xs).length) H1) I ⟨w, ρ, rfl, gd, rl, wp_in wp fun d w1 l1 g1 q1 v r => ?_⟩) fun v s1 ⟨x, H1, I1, r1, q1⟩ => PyProof.Rows.args_nil ?_) na) na rfl
  · unfold lenSetD at q1
    split at q1
    · split at q1
      · split at q1
        · rename_i ds xs hs hz
          obtain ⟨b, vs, rfl, hb, rr⟩ := r.lst_eq
          rw [strsOf_eq hs] at rr
          rw [rr.mapStr] at hb
          exact ⟨b, xs, rfl, hb, hz, WpE.now g1 q1 _ rep_int⟩
        · exact q1.elim
      · exact q1.elim
    · exact q1.elim
  · obtain ⟨l, xs, rfl, hq, hz, q1⟩ := q1
    cases r1
    obtain ⟨its, n, rv, hl, hs⟩ := I1.lst hq
    have hlen : its.length = xs.length := by rw [← rv.length, List.length_map]
    refine call_set_strs (I1.ok.hd hc) (its := its.toArray) ⟨_, hl, rfl, n, rfl⟩ (by simpa using strsAre_of rv) (by rw [List.size_toArray]; unfold scanBound; omega) fun h' tk z kk => PyProof.Rows.args_nil ?_
    obtain ⟨o, es, ep, t, ho, hex, hd, _, _, _, hf, hn⟩ := z
    have I2 : Inv X pins σ H1 { s1 with heap := h', toks := tk } := I1.kept fun b o e => kk b o (Heap.lt_size e) e
    have hle := onceS_le xs
    exact call_len_set ho hex hd hf (by rw [hn]; omega) ⟨.int (onceS xs).length, H1, I2.tok _, ⟨_, by rw [hn]⟩, q1⟩
end
end Ds
set_option Elab.async false
set_option linter.all false
set_option maxRecDepth 100000
set_option maxHeartbeats 1000000
set_option autoImplicit false
/-! DsP: wide powers, text * int, remove, extend by a shared list, comprehensions of two clauses. -/
namespace Ds
open PySem PySem.Spec PyProof.Rows L2
section
variable {X : Cx} {W : WX} {e a b c : Expr} {es : List Expr} {f g : SE} {fl : SL} {pos : Pos}

/-! ### a power of any base -/
def CPowW (i j : Int) : Prop := 0 ≤ j ∧ ((i.natAbs.log2 + 1 : Nat) : Int) * j ≤ 134217728
theorem op_powW : OpR X (binaryOp .Pow) (rI CPowW fun i j => .int (i ^ j.toNat)) := opI fun i j _ _ _ _ _ hc q => by
  obtain ⟨h1, h2⟩ := hc
  refine pow_int h1 ?_ q
  have hb : (Builtin.Int.intBits i : Int) ≤ ((i.natAbs.log2 + 1 : Nat) : Int) := by
    unfold Builtin.Int.intBits
    split <;> omega
  exact Int.le_trans (Int.mul_le_mul_of_nonneg_right hb h1) (Int.le_trans h2 (by decide))
def powWD (x y : D) (st : Sto) : Out D := match x, y with
  | .int i, .int j => if 0 ≤ j ∧ ((i.natAbs.log2 + 1 : Nat) : Int) * j ≤ 134217728 then .ok (.int (i ^ j.toNat)) st else .bad
  | _, _ => .bad
theorem powWD_ok {G : Gc} : OpD G W (rI CPowW fun i j => .int (i ^ j.toNat)) powWD := by
  intro w x y u v Q g rx ry wp
  unfold powWD at wp
  split at wp
  · split at wp
    · rename_i hc
      exact ⟨_, _, rx.int_eq, ry.int_eq, hc, wp.now g _ rep_int⟩
    · exact wp.elim
  · exact wp.elim
theorem de_powW (ha : DE X W a f) (hb : DE X W b g) : DE X W (.BinOp a .Pow b pos) (s2 powWD f g) := de_op op_powW powWD_ok ha hb

/-! ### text * int -/
def mulS (x : Str) (n : Nat) : Str := if (n == 1 || x.length == 0) = true then x else ⟨(List.replicate n x.cps).foldl (· ++ ·) #[]⟩
theorem fold_size (xs : Array Nat) : ∀ (n : Nat) (acc : Array Nat), ((List.replicate n xs).foldl (· ++ ·) acc).size = acc.size + n * xs.size
  | 0, acc => by simp
  | n + 1, acc => by
    rw [List.replicate_succ, List.foldl_cons, fold_size xs n, Array.size_append, Nat.succ_mul]
    omega
def rMulS : R2 := fun u v H Q => ∃ (x : Str) (n : Nat), u = .str x ∧ v = .int n ∧ 1 ≤ n ∧ n ≤ 1000 ∧ x.length ≤ 1000 ∧ Q (.str (mulS x n)) H
theorem op_mulS : OpR X (binaryOp .Mult) rMulS := by
  intro pins s σ H u v uv vv Q I ru rv h
  obtain ⟨x, n, rfl, rfl, h1, h2, h3, q⟩ := h
  obtain ⟨t, rfl⟩ := ru
  obtain ⟨t', rfl⟩ := rv
  have hm : x.length * n ≤ 1000000 := Nat.le_trans (Nat.mul_le_mul h3 h2) (by decide)
  have hl : x.length * n ≤ sizeLine := by rw [sizeLine_eq]; omega
  refine PySem.P.mul_str ?_ (fun _ _ z => ?_) (fun _ _ => ?_) ?_
  · rw [decide_eq_false (by omega), decide_eq_false (by omega)]; rfl
  · have hp : (0 : Int) < (n : Int) := by omega
    have h4 : (x.length : Int) * (n : Int) ≤ 1000000 := by rw [← Int.natCast_mul]; exact Int.ofNat_le.mpr hm
    have h5 : (x.length : Int) ≤ (2 ^ 63 - 1) / (n : Int) := (Int.le_ediv_iff_mul_le hp).mpr (by omega)
    omega
  · show decide (_ > _) = false
    rw [Int.toNat_natCast]
    exact decide_eq_false (by omega)
  · have hn : ¬ ((n : Int) < 1) := by omega
    rw [if_neg hn]
    have e : ((n : Int) == 1) = (n == 1) := by
      by_cases z : n = 1
      · subst z; rfl
      · have z1 : (n == 1) = false := by simpa using z
        rw [z1]
        exact beq_eq_false_iff_ne.mpr (by omega)
    rw [e]
    unfold mulS at q
    by_cases z : (n == 1 || x.length == 0) = true
    · rw [if_pos z] at q ⊢
      exact ⟨.str x, H, I, ⟨t, rfl⟩, q⟩
    · rw [if_neg z] at q ⊢
      rw [Int.toNat_natCast]
      refine ⟨?_, .str _, H, I.tok _, ⟨_, rfl⟩, q⟩
      show ((List.replicate n x.cps).foldl (· ++ ·) #[]).size ≤ sizeLine
      rw [fold_size]
      have e2 : x.cps.size = x.length := rfl
      rw [e2, Nat.mul_comm]
      simpa using hl
def mulSD (x y : D) (st : Sto) : Out D := match x, y with
  | .str x, .int k => if 1 ≤ k ∧ k ≤ 1000 ∧ x.length ≤ 1000 then .ok (.str (mulS x k.toNat)) st else .bad
  | _, _ => .bad
theorem mulSD_ok {G : Gc} : OpD G W rMulS mulSD := by
  intro w x y u v Q g rx ry wp
  unfold mulSD at wp
  split at wp
  · split at wp
    · rename_i x k hc
      obtain ⟨h1, h2, h3⟩ := hc
      exact ⟨x, k.toNat, rx.str_eq, by rw [ry.int_eq]; congr 1; omega, by omega, by omega, h3, wp.now g _ rep_str⟩
    · exact wp.elim
  · exact wp.elim
theorem de_mulS (ha : DE X W a f) (hb : DE X W b g) : DE X W (.BinOp a .Mult b pos) (s2 mulSD f g) := de_op op_mulS mulSD_ok ha hb

/-! ### list.remove of a text -/
theorem strs_erase : ∀ (l : List Str) (j : Nat), (l.map V.str).eraseIdx j = (l.eraseIdx j).map V.str
  | [], j => by simp
  | a :: r, 0 => by simp
  | a :: r, j + 1 => by
    have ih := strs_erase r j
    simp [ih]
def rRemS : V → List V → Hp → VK → Prop := fun x xs H Q => ∃ (l : Addr) (ns : List Str) (k : Str) (j : Nat), x = .ref l ∧ xs = [.str k] ∧ H l = some (.lst (ns.map V.str)) ∧ ns[j]? = some k ∧ (∀ m : Nat, m < j → ns[m]? ≠ some k) ∧ Q .non (upd H l (.lst ((ns.eraseIdx j).map V.str)))
theorem strs_get : ∀ {us : List Value} {ns : List Str} {m : Nat} {y : Str}, StrsAre us ns → ns[m]? = some y → ∃ t, us[m]? = some (.str y t)
  | _, _, m, y, .nil, h => by simp at h
  | _, _, 0, y, .cons z t r, h => by
    cases h
    exact ⟨t, rfl⟩
  | _, _, m + 1, y, .cons z t r, h => strs_get (m := m) r (by simpa using h)
theorem mt_remS : MtR X "list.remove" rRemS := by
  intro pins s σ H x xs v us Q I rx rxs h
  obtain ⟨l, ns, k, j, rfl, rfl, hH, hj, hno, q⟩ := h
  cases rx
  obtain ⟨u, rfl, ru⟩ := rxs.one
  obtain ⟨t, rfl⟩ := ru
  obtain ⟨z, its, n, r, hl, e⟩ := I.lstM hH
  have hi := strsAre_of r
  rw [List.length_map] at hl z
  have jn : j < ns.length := (List.getElem?_eq_some_iff.mp hj).1
  have jl : j < its.toArray.size := by rw [List.size_toArray]; omega
  have sz : its.toArray.size ≤ sizeLine := by rw [List.size_toArray]; omega
  refine call_meets PySem.F.slot_list_remove ⟨_, e, rfl⟩ PySem.F.entry_list_remove (PySem.F.args_list_remove_2 _ _) (MeetsSeq.list_remove l its.toArray n (.str k t) (isStrOf k) (fun y hy => eq_isStrOf k t hi y (by simpa using hy)) j jl ?_ ?_ sz) ⟨e, ?_⟩
  · obtain ⟨tj, hjt⟩ := strs_get hi hj
    obtain ⟨_, h2⟩ := List.getElem?_eq_some_iff.mp hjt
    rw [show its.toArray[j] = .str k tj by simpa using h2]
    exact beq_self_eq_true k
  · intro m hm hmj
    obtain ⟨tm, hmt⟩ := strs_get hi (List.getElem?_eq_getElem (show m < ns.length by omega))
    obtain ⟨_, h2⟩ := List.getElem?_eq_some_iff.mp hmt
    rw [show its.toArray[m] = .str ns[m] tm by simpa using h2]
    refine beq_eq_false_iff_ne.mpr fun ee => hno m hmj ?_
    rw [List.getElem?_eq_getElem (by omega), ee]
  · have rr := r.eraseIdx j
    rw [strs_erase] at rr
    refine ⟨.non, _, I.lset (its' := its.eraseIdx j) (t' := s.toks) hH e ?_ rr ?_, rfl, q⟩
    · show its.toArray.eraseIdxIfInBounds j = _
      rw [List.eraseIdxIfInBounds_toArray]
    · have z2 := len_erase ns j
      rw [List.length_map]
      omega
def kRem : KM := fun xs ys => match ys with
  | [.str k] => (match strsOf xs with
    | some ns => if k ∈ ns then some ((ns.eraseIdx (ns.findIdx (· == k))).map D.str) else none
    | none => none)
  | _ => none
theorem idx_first {ns : List Str} {k : Str} : ∀ m : Nat, m < ns.findIdx (· == k) → ns[m]? ≠ some k := fun m hm z => by
  obtain ⟨h1, h2⟩ := List.getElem?_eq_some_iff.mp z
  have h3 := List.not_of_lt_findIdx hm
  simp [h2] at h3
theorem md_rem {K : PySem.W.Frag} : MtD rRemS K kRem := by
  intro w a xs ys zs vs us Q g h r r2 hk q
  unfold kRem at hk
  split at hk
  · split at hk
    · split at hk
      · rename_i k _ ns hs hm
        cases hk
        have e := strsOf_eq hs
        subst e
        obtain ⟨v, rfl, hv⟩ := r2.one
        have ev := r.mapStr
        subst ev
        have hlt : ns.findIdx (· == k) < ns.length := List.findIdx_lt_length_of_exists ⟨k, hm, beq_self_eq_true k⟩
        have hat : ns[ns.findIdx (· == k)] = k := beq_iff_eq.mp (List.findIdx_getElem (w := hlt))
        refine ⟨a, ns, k, ns.findIdx (· == k), rfl, by rw [hv.str_eq], h, ?_, idx_first, q _ (RepL.ofStr _) ?_⟩
        · rw [List.getElem?_eq_getElem hlt, hat]
        · have z := g.szl a _ h
          have z2 := len_erase ns (ns.findIdx (· == k))
          rw [List.length_map] at z ⊢
          omega
      · cases hk
    · cases hk
  · cases hk
end
end Ds
set_option Elab.async false
set_option linter.all false
set_option maxRecDepth 100000
set_option maxHeartbeats 1000000
set_option autoImplicit false
/-! DsQ: extend by a view; comprehensions of two clauses. -/
namespace Ds
open PySem PySem.Spec PyProof.Rows L2
section
variable {X : Cx} {W : WX} {o e : Expr} {f g : SE} {apos cpos : Pos}
/-- x.extend(y), x a shared list, y any list -/
def sExtV (f g : SE) : SE := fun ρ st => (f ρ st).bind fun d st1 => match d with
  | .ref n => (match st1[n]? with
    | some (some (.lst _)) => (g ρ st1).bind fun y st2 => (match st2[n]?, y with
      | some (some (.lst xs)), .lst ys => if xs.length + ys.length ≤ sizeLine then .ok .non (st2.set n (some (.lst (xs ++ ys)))) else .bad
      | _, _ => .bad)
    | _ => .bad)
  | _ => .bad
theorem de_extV (ho : DE X W o f) (ha : DV X W e g)
    (hbase : attributeBase o "extend" X.env (eval o X.env) = eval o X.env := by rfl)
    (hfew : ((backTo cpos (starEach (e :: []) X.env)).all (fun x => !x.1) && (backToKw cpos (keywordEach [] X.env)).all (fun x => x.1.isSome)
      && decide ((e :: []).length + ([] : List Keyword).length + (if ([] : List Keyword).isEmpty then 0 else 1) < 30)) = true := by rfl)
    (hline : (apos.endLine == cpos.line) = true := by rfl) (hs : starEach (e :: []) X.env = (false, eval e X.env) :: starEach [] X.env := by rfl) (hplain : (backTo cpos (starEach [] X.env)).any (·.1) = false := by rfl) :
    DE X W (.Call (.Attribute o "extend" apos) [e] [] cpos) (sExtV f g) := by
  refine ⟨PE_of (pe_bm F.plainAttrs_list F.slot_list_extend F.type_list_extend (show MtR X "list.extend" rExtend from mt_extend) ho.pe (pa_cons ha.pe pa_nil hs) hbase hfew hline hs hplain) fun σ H Q ⟨w, ρ, e, gd, rl, wp⟩ => ?_⟩
  subst e
  refine ⟨w, ρ, rfl, gd, rl, wp_in wp fun d w1 l1 g1 q1 v r => ?_⟩
  split at q1
  · rename_i n
    split at q1
    · rename_i xs0 hx
      have r' := r
      unfold Rep at r'
      obtain ⟨_, rfl⟩ := r'
      obtain ⟨us, h1, h2⟩ := g1.at_ n xs0 hx
      refine ⟨tyL h1, w1, ρ, rfl, g1, rl.leE gd l1, wp_in q1 fun y w2 l2 g2 q2 vy ry => ?_⟩
      split at q2
      · split at q2
        · rename_i xs ys hx2 hz
          obtain ⟨us2, h3, h4⟩ := g2.at_ n xs hx2
          obtain ⟨b, zs, rfl, h5, h6⟩ := ry.lst_eq
          have em := l2.mu n (List.getElem?_eq_some_iff.mp hx).1
          have hz' : us2.length + zs.length ≤ sizeLine := by rw [h4.length, h6.length]; exact hz
          refine ⟨w1.μ n, b, us2, zs, rfl, rfl, by rw [← em]; exact h3, h5, hz', ?_⟩
          rw [← em]
          exact q2.at' (w' := w2.putR n (xs ++ ys) (us2 ++ zs)) (putR_le hx2) (putR_good g2 hx2 (h4.append h6) (by rw [List.length_append]; exact hz')) rfl _ rep_non
        · exact q2.elim
      · exact q2.elim
    · exact q1.elim
  · exact q1.elim
end

/-! ### two clauses -/
section
variable {G : Gc} {w : Wd} {ns : List Nat} {T : En → L2.St → Prop}
mutual
theorem tgt_okP (hT : ∀ ρ σ i d v, i ∈ ns → T ρ σ → T (ρ.set i (some (.val d))) (σ.set i (some v))) : ∀ (t : Tgt) (d : D) (v : V) (ρ ρ' : En) (σ : L2.St) (Q : L2.St → Hp → Prop), RelEn G w ρ σ → T ρ σ → Rep G.K w d v → t.bind d ρ = some ρ' → t.within ns = true → (∀ σ', RelEn G w ρ' σ' → T ρ' σ' → Q σ' w.H) → t.g G.K v σ w.H Q
  | .nm i, d, v, ρ, ρ', σ, Q, rl, p, r, h, hn, q => by
    unfold Tgt.bind at h
    unfold Tgt.g
    split at h
    · rename_i hi
      cases h
      exact q _ (rl.setVal r hi) (hT _ _ _ _ _ (of_decide_eq_true hn) p)
    · cases h
  | .tp ts, .tup ds, v, ρ, ρ', σ, Q, rl, p, r, h, hn, q => by
    unfold Tgt.bind at h
    unfold Tgt.g
    obtain ⟨a, vs, rfl, t, rr⟩ := r.tup_eq
    exact ⟨a, vs, rfl, t.sq, by rw [rr.length, binds_len _ _ _ _ h], tgts_okP hT ts ds vs ρ ρ' σ Q rl p rr h hn q⟩
  | .tp ts, .non, v, ρ, ρ', σ, Q, rl, p, r, h, hn, q => by simp [Tgt.bind] at h
  | .tp ts, .bl _, v, ρ, ρ', σ, Q, rl, p, r, h, hn, q => by simp [Tgt.bind] at h
  | .tp ts, .int _, v, ρ, ρ', σ, Q, rl, p, r, h, hn, q => by simp [Tgt.bind] at h
  | .tp ts, .str _, v, ρ, ρ', σ, Q, rl, p, r, h, hn, q => by simp [Tgt.bind] at h
  | .tp ts, .lst _, v, ρ, ρ', σ, Q, rl, p, r, h, hn, q => by simp [Tgt.bind] at h
  | .tp ts, .fz _, v, ρ, ρ', σ, Q, rl, p, r, h, hn, q => by simp [Tgt.bind] at h
  | .tp ts, .ref _, v, ρ, ρ', σ, Q, rl, p, r, h, hn, q => by simp [Tgt.bind] at h
theorem tgts_okP (hT : ∀ ρ σ i d v, i ∈ ns → T ρ σ → T (ρ.set i (some (.val d))) (σ.set i (some v))) : ∀ (ts : List Tgt) (ds : List D) (vs : List V) (ρ ρ' : En) (σ : L2.St) (Q : L2.St → Hp → Prop), RelEn G w ρ σ → T ρ σ → RepL G.K w ds vs → Tgt.binds ts ds ρ = some ρ' → Tgt.withins ns ts = true → (∀ σ', RelEn G w ρ' σ' → T ρ' σ' → Q σ' w.H) → Tgt.gs G.K ts vs σ w.H Q
  | [], [], vs, ρ, ρ', σ, Q, rl, p, r, h, hn, q => by
    unfold Tgt.binds at h
    cases h
    unfold Tgt.gs
    exact ⟨r.nil_eq, q _ rl p⟩
  | t :: ts, d :: ds, vs, ρ, ρ', σ, Q, rl, p, r, h, hn, q => by
    unfold Tgt.binds at h
    obtain ⟨v, us, rfl, r1, r2⟩ := r.uncons
    obtain ⟨n1, n2⟩ := Bool.and_eq_true_iff.mp (show (t.within ns && Tgt.withins ns ts) = true from hn)
    cases e : t.bind d ρ with
    | none => rw [e] at h; cases h
    | some ρ1 =>
      rw [e] at h
      unfold Tgt.gs
      exact ⟨v, us, rfl, tgt_okP hT t d v ρ ρ1 σ _ rl p r1 e n1 fun σ1 rl1 p1 => tgts_okP hT ts ds us ρ1 ρ' σ1 Q rl1 p1 r2 h n2 q⟩
  | [], d :: ds, vs, ρ, ρ', σ, Q, rl, p, r, h, hn, q => by simp [Tgt.binds] at h
  | t :: ts, [], vs, ρ, ρ', σ, Q, rl, p, r, h, hn, q => by simp [Tgt.binds] at h
end
end
/-- the block's names wiped as they were, A apart -/
def WA (ns : List Nat) (c : L2.St) (A : Addr) (ρ : En) (σ : L2.St) : Prop := wipe σ ns = c ∧ Apart ρ σ A
theorem WA.set {ns : List Nat} {c : L2.St} {A : Addr} (ρ : En) (σ : L2.St) (i : Nat) (d : D) (v : V) (hi : i ∈ ns) (h : WA ns c A ρ σ) : WA ns c A (ρ.set i (some (.val d))) (σ.set i (some v)) :=
  ⟨(wipe_set hi).trans h.1, fun j es e z => by
    rcases set_get e with ⟨_, q⟩ | ⟨ne, q⟩
    · cases q
    · rw [List.getElem?_set_ne ne] at z
      exact h.2 j es q z⟩
theorem apart_wipe {ρ : En} {σ : L2.St} {A : Addr} (h : Apart ρ σ A) (ns : List Nat) : Apart (wipeE ρ ns) (wipe σ ns) A := fun j es e z => by
  obtain ⟨e1, e2⟩ := wipeE_get e
  rw [wipe_out e2] at z
  exact h j es e1 z
theorem put_apart {G : Gc} {w : Wd} {ρ : En} {σ : L2.St} {a : Addr} {us vs : List V} (g : Good G.K w) (rl : RelEn G w ρ σ) (o : w.O a) (e : w.H a = some (.lst us)) (ap : Apart ρ σ a) : RelEn G (w.put a vs) ρ σ := by
  have l := put_lef (vs := vs) o e
  refine ⟨rl.len, fun j d h => ?_, fun j es h => ?_, rl.sep, fun j x h => ?_⟩
  · obtain ⟨v, h1, h2⟩ := rl.val j d h
    exact ⟨v, h1, Rep.leF g l _ _ h2⟩
  · obtain ⟨b, xs, h1, h2, h3, h4⟩ := rl.own j es h
    have nb : b ≠ a := fun z => ap j es h (by rw [← z]; exact h1)
    exact ⟨b, xs, h1, h2, (upd_ne nb).trans h3, RepL.leF g l _ _ h4⟩
  · obtain ⟨b, c, d, h1, h2, h3⟩ := rl.exn j x h
    exact ⟨b, c, d, h1, h2, h3.leF g l⟩
/-- the inner loop: its items go to acc -/
def lcF2 (it : IT) (step : D → List D → Sto → Out (List D)) : Nat → Nat → List D → Sto → Out (List D)
  | 0, _, _, _ => .bad
  | m + 1, i, acc, st => match it.now st with
    | none => .bad
    | some ds => (match ds[i]? with
      | none => .ok acc st
      | some d => (step d acc st).bind fun acc1 st1 => lcF2 it step m (i + 1) acc1 st1)
theorem lcF2_succ {it : IT} {step : D → List D → Sto → Out (List D)} {m i : Nat} {acc : List D} {st : Sto} : lcF2 it step (m + 1) i acc st = (match it.now st with
    | none => .bad
    | some ds => (match ds[i]? with
      | none => .ok acc st
      | some d => (step d acc st).bind fun acc1 st1 => lcF2 it step m (i + 1) acc1 st1)) := rfl
/-- an item of the inner clause -/
def stepA (t : Tgt) (k : SB) (fe : SE) (ρ : En) : D → List D → Sto → Out (List D) := fun d acc st => match t.bind d ρ with
  | some ρ' => (turnC k fe ρ' st).bind fun o st1 => (match o with
    | none => .ok acc st1
    | some y => if acc.length < sizeLine then .ok (acc ++ [y]) st1 else .bad)
  | none => .bad
/-- an item of the outer one -/
def stepB (t : Tgt) (k : SB) (fi : SI) (t1 : Tgt) (k1 : SB) (fe : SE) (vs1 : List Nat) (ρ : En) : D → List D → Sto → Out (List D) := fun d acc st => match t.bind d ρ with
  | some ρ' => (k ρ' st).bind fun b st1 => if b = true then (fi ρ' st1).bind fun it st2 => (match it.now st2 with
      | none => .bad
      | some ds => lcF2 it (stepA t1 k1 fe (wipeE ρ' vs1)) (ds.length + 1) 0 acc st2)
    else .ok acc st1
  | none => .bad
def sLc2 (fi : SI) (t : Tgt) (k : SB) (fi1 : SI) (t1 : Tgt) (k1 : SB) (fe : SE) (vs vs1 : List Nat) : SL := fun ρ st => (fi ρ st).bind fun it st1 => match it.now st1 with
  | none => .bad
  | some ds => shield (lcF2 it (stepB t k fi1 t1 k1 fe vs1 (wipeE ρ vs)) (ds.length + 1) 0 [] st1)
section
variable {X : Cx} {W : WX} {tg iter tg1 iter1 elt : Expr} {ifs ifs1 : List Expr} {fi fi1 : SI} {t t1 : Tgt} {k k1 : SB} {fe : SE} {scope : Scope} {own : List (Str × Nat)} {vs1 : List Nat} {pos spos py : Pos}
theorem unshield' {α : Type} {G : Gc} {w : Wd} {o : Out α} {P : α → Wd → Prop} (h : WpE G W w (shield o) P) : WpE G W0 w o P := unshield h
/-- where the new list stands in a turn -/
structure AccAt (K : PySem.W.Frag) (w1 w : Wd) (A : Addr) (acc : List D) : Prop where
  le : LeE w1 w
  good : Good K w
  own : w.O A
  at_ : ∃ vs, w.H A = some (.lst vs) ∧ RepL K w acc vs
theorem AccAt.on {K : PySem.W.Frag} {w1 w w2 : Wd} {A : Addr} {acc : List D} (h : AccAt K w1 w A acc) (l : LeE w w2) (g : Good K w2) : AccAt K w1 w2 A acc := by
  obtain ⟨vs, h1, h2⟩ := h.at_
  exact ⟨h.le.trans l, g, l.own A h.own, vs, (l.keep A _ h1 fun z => (h.good.mo A z).1 h.own).1, h2.leE h.good l⟩
theorem AccAt.app {K : PySem.W.Frag} {w1 w : Wd} {A : Addr} {acc : List D} (hA : w1.H A = none) (h : AccAt K w1 w A acc) {y : D} {v : V} (r : Rep K w y v) (hz : acc.length < sizeLine) :
    ∃ vs, w.H A = some (.lst vs) ∧ vs.length < sizeLine ∧ AccAt K w1 (w.put A (vs ++ [v])) A (acc ++ [y]) := by
  obtain ⟨vs, h1, h2⟩ := h.at_
  have hz' : vs.length < sizeLine := by rw [h2.length]; exact hz
  exact ⟨vs, h1, hz', put_le h.le hA h.own ⟨_, h1⟩, put_good h.good h.own h1 (by rw [List.length_append, List.length_singleton]; omega), h.own, _, upd_same, RepL.leF h.good (put_lef h.own h1) _ _ (h2.append (.cons r .nil))⟩
theorem lc2_wish (hw : t.within (own.map (·.2)) = true) (hw1 : t1.within vs1 = true) {σ : L2.St} {H : Hp} {Q : VK} (h : tO (gc X) W (sLc2 fi t k fi1 t1 k1 fe (own.map (·.2)) vs1) σ H Q) :
    tLc2 (tI LeE (gc X) W fi) (t.g X.K) (tT (gc X) W0 k) (tI LeF (gc X) W0 fi1) (t1.g X.K) (tT (gc X) W0 k1) (tD (gc X) W0 fe) (own.map (·.2)) vs1 σ H Q := by
  obtain ⟨w, ρ, e, gd, rl, wp⟩ := h
  subst e
  refine ⟨w, ρ, rfl, gd, rl, (WpE.bind wp).mono fun it w1 l1 g1 q1 J ok => ?_⟩
  intro A hA
  obtain ⟨lA, gA, rA⟩ := new_own (K := X.K) g1 hA (.nil) (Nat.zero_le _)
  split at q1
  · exact q1.elim
  rename_i ds0 h0
  have q1 := unshield q1
  -- the end
  let R : List D → Wd → Prop := fun ds w' => ∀ a vs, Made X.K w w' a ds vs → Q (.ref a) w'.H
  -- a turn's state: the base of the wish is w1
  let St := fun (i m : Nat) (H : Hp) => ∃ (w2 : Wd) (acc : List D), w2.H = H ∧ AccAt X.K w1 w2 A acc ∧ WpE (gc X) W0 w1 (lcF2 it (stepB t k fi1 t1 k1 fe vs1 (wipeE ρ (own.map (·.2)))) m i acc w2.st) R
  refine ⟨St, ⟨_, _, [], rfl, ⟨lA, gA, .inr rfl, [], upd_same, rA⟩, q1⟩, ?_⟩
  rintro i m H2 ⟨w2, acc, rfl, a2, q2⟩
  cases m with
  | zero => exact q2.elim
  | succ m =>
    unfold lcF2 at q2
    split at q2
    · exact q2.elim
    · rename_i ds hds
      have ok2 := ok w2 a2.le a2.good i ds hds
      cases hd : ds[i]? with
      | none =>
        rw [hd] at q2 ok2
        obtain ⟨vs, h2, r2⟩ := a2.at_
        exact .inl ⟨ok2, q2 _ (drop_le g1 a2.le hA) (drop_good a2.good) rfl A vs (made_of l1 hA a2.good a2.own h2 r2)⟩
      | some d =>
        rw [hd] at q2 ok2
        obtain ⟨go, y⟩ := ok2
        refine .inr ⟨go, fun H' => St (i + 1) m H', fun H' h => ⟨m, Nat.lt_succ_self m, h⟩, fun x H' hy => ?_⟩
        obtain ⟨w3, l3, g3, e3, _, rfl, r3⟩ := y x H' hy
        have a3 := a2.on l3 g3
        have q3 : WpE (gc X) W0 w1 ((stepB t k fi1 t1 k1 fe vs1 (wipeE ρ (own.map (·.2))) d acc w3.st).bind fun acc1 st1 => lcF2 it (stepB t k fi1 t1 k1 fe vs1 (wipeE ρ (own.map (·.2)))) m (i + 1) acc1 st1) R := by rw [e3]; exact q2
        have q3 := bind0 q3
        have rl3 := (rl.leE gd (l1.trans a3.le)).wiped (own.map (·.2))
        have es : stepB t k fi1 t1 k1 fe vs1 (wipeE ρ (own.map (·.2))) d acc w3.st = (match t.bind d (wipeE ρ (own.map (·.2))) with
          | some ρ' => (k ρ' w3.st).bind fun b st1 => if b = true then (fi1 ρ' st1).bind fun it st2 => (match it.now st2 with
              | none => .bad
              | some ds => lcF2 it (stepA t1 k1 fe (wipeE ρ' vs1)) (ds.length + 1) 0 acc st2)
            else .ok acc st1
          | none => .bad) := rfl
        rw [es] at q3
        cases hb : t.bind d (wipeE ρ (own.map (·.2))) with
        | none => rw [hb] at q3; exact q3.elim
        | some ρ3 =>
          rw [hb] at q3
          have q4 := WpE.le a3.le (bind0 q3)
          have ap0 : Apart ρ σ A := fun j es e z => by
            obtain ⟨b, us, h1, _, h3, _⟩ := rl.own j es e
            rw [z] at h1
            simp only [Option.some.injEq, V.ref.injEq] at h1
            subst h1
            rw [l1.unl hA] at h3; cases h3
          refine tgt_okP (T := WA (own.map (·.2)) (wipe σ (own.map (·.2))) A) (fun ρ σ i d v hi h => h.set ρ σ i d v hi) t d x _ ρ3 _ _ rl3 ⟨wipe_wipe, apart_wipe ap0 _⟩ r3 hb hw fun σ3 rl3' ⟨hwi, ap3⟩ => ⟨hwi, w3, ρ3, rfl, g3, rl3', q4.mono fun b w4 l4 g4 q5 => ?_⟩
          have a4 := a3.on l4 g4
          have rl4 := rl3'.leE g3 l4
          cases b with
          | false =>
            refine iteF ⟨w4, acc, rfl, a4, ?_⟩
            exact (show WpE (gc X) W0 w1 (.ok acc w4.st) _ from q5) w4 a4.le g4 rfl
          | true =>
            have q6 := WpE.le a4.le (bind0 (show WpE (gc X) W0 w1 ((fi1 ρ3 w4.st).bind _) _ from q5))
            refine iteT ⟨w4, ρ3, rfl, g4, rl4, q6.mono fun it1 w5 l5 g5 q7 J1 ok1 => ?_⟩
            have a5 := a4.on l5 g5
            split at q7
            · exact q7.elim
            rename_i dsi hdsi
            have rl5 := rl4.leE g4 l5
            let St1 := fun (j n : Nat) (H : Hp) => ∃ (w6 : Wd) (acc6 : List D), w6.H = H ∧ LeF w5 w6 ∧ AccAt X.K w1 w6 A acc6 ∧ RelEn (gc X) w6 ρ3 σ3 ∧ WpE (gc X) W0 w1 (lcF2 it1 (stepA t1 k1 fe (wipeE ρ3 vs1)) n j acc6 w6.st) fun acc7 w7 => WpE (gc X) W0 w1 (lcF2 it (stepB t k fi1 t1 k1 fe vs1 (wipeE ρ (own.map (·.2)))) m (i + 1) acc7 w7.st) R
            refine ⟨St1, ⟨_, w5, acc, rfl, .refl _, a5, rl5, q7⟩, ?_⟩
            rintro j n H6 ⟨w6, acc6, rfl, l56, a6, rl6, q8⟩
            cases n with
            | zero => exact q8.elim
            | succ n =>
              rw [lcF2_succ] at q8
              split at q8
              · exact q8.elim
              rename_i dsj hdsj
              have ok3 := ok1 w6 l56 a6.good j dsj hdsj
              cases hdj : dsj[j]? with
              | none =>
                rw [hdj] at q8 ok3
                exact .inl ⟨ok3, w6, acc6, rfl, a6, q8 w6 a6.le a6.good rfl⟩
              | some dj =>
                rw [hdj] at q8 ok3
                obtain ⟨go1, y1⟩ := ok3
                refine .inr ⟨go1, fun H' => St1 (j + 1) n H', fun H' h => ⟨n, Nat.lt_succ_self n, h⟩, fun x1 H' hy1 => ?_⟩
                obtain ⟨w8, l8, g8, e8, _, rfl, r8⟩ := y1 x1 H' hy1
                have a8 := a6.on l8 g8
                have rl8 := rl6.leE a6.good l8
                have q9 : WpE (gc X) W0 w1 ((stepA t1 k1 fe (wipeE ρ3 vs1) dj acc6 w8.st).bind fun acc1 st1 => lcF2 it1 (stepA t1 k1 fe (wipeE ρ3 vs1)) n (j + 1) acc1 st1) (fun acc7 w7 => WpE (gc X) W0 w1 (lcF2 it (stepB t k fi1 t1 k1 fe vs1 (wipeE ρ (own.map (·.2)))) m (i + 1) acc7 w7.st) R) := by rw [e8]; exact q8
                have q9 := bind0 q9
                have es1 : stepA t1 k1 fe (wipeE ρ3 vs1) dj acc6 w8.st = (match t1.bind dj (wipeE ρ3 vs1) with
                  | some ρ' => (turnC k1 fe ρ' w8.st).bind fun o st1 => (match o with
                    | none => .ok acc6 st1
                    | some y => if acc6.length < sizeLine then .ok (acc6 ++ [y]) st1 else .bad)
                  | none => .bad) := rfl
                rw [es1] at q9
                cases hb1 : t1.bind dj (wipeE ρ3 vs1) with
                | none => rw [hb1] at q9; exact q9.elim
                | some ρ8 =>
                  rw [hb1] at q9
                  have q10 := WpE.le a8.le (bind0 q9)
                  have q11 := WpE.bind (show WpE (gc X) W0 w8 (turnC k1 fe ρ8 w8.st) _ from q10)
                  refine tgt_okW t1 dj x1 _ ρ8 _ _ (rl8.wiped vs1) r8 hb1 hw1 fun σ8 rl8' hwi1 => ⟨hwi1.trans wipe_wipe, w8, ρ8, rfl, g8, rl8', q11.mono fun b w9 l9 g9 q12 => ?_⟩
                  have a9 := a8.on l9 g9
                  cases b with
                  | false =>
                    refine iteF ⟨w9, acc6, rfl, l56.trans (l8.trans l9).toF, a9, rl8.leE g8 l9, ?_⟩
                    have q13 := WpE.now (a := (none : Option D)) g9 q12
                    exact (show WpE (gc X) W0 w1 (.ok acc6 w9.st) _ from q13) w9 a9.le g9 rfl
                  | true =>
                    refine iteT ⟨w9, ρ8, rfl, g9, rl8'.leE g8 l9, (WpE.bind q12).mono fun z wa la ga q13 v rz => ?_⟩
                    have aa := a9.on la ga
                    have q14 := WpE.now (a := some z) ga q13
                    have q14 : WpE (gc X) W0 w1 (if acc6.length < sizeLine then .ok (acc6 ++ [z]) wa.st else .bad) _ := q14
                    split at q14
                    · rename_i hz
                      obtain ⟨vs, hv1, hv2, hv3⟩ := aa.app hA rz hz
                      refine ⟨vs, hv1, hv2, _, _, rfl, (l56.trans ((l8.trans l9).trans la).toF).trans (put_lef aa.own hv1), hv3, put_apart ga (rl8.leE g8 (l9.trans la)) aa.own hv1 ap3, ?_⟩
                      exact q14 (wa.put A (vs ++ [v])) hv3.le hv3.good rfl
                    · exact q14.elim
theorem do_lc2 (hc : X.calm = true) (hN : X.N.Nodup) (hi : DJ X W tg iter fi) (ok : blkC X.N X.env.scope scope own = true)
    (hg : ∀ (s : Shared) (H : Hp) (C : Addr) (cl : List (Str × Addr)) (fp : List Addr), DG (X.blk s H scope (compEnvC scope cl C X.env) fp) tg t)
    (ht : ∀ (s : Shared) (H : Hp) (C : Addr) (cl : List (Str × Addr)) (fp : List Addr), DTs (X.blk s H scope (compEnvC scope cl C X.env) fp) W0 ifs k)
    (hi1 : ∀ (s : Shared) (H : Hp) (C : Addr) (cl : List (Str × Addr)) (fp : List Addr), DI (X.blk s H scope (compEnvC scope cl C X.env) fp) W0 tg1 iter1 fi1)
    (hg1 : ∀ (s : Shared) (H : Hp) (C : Addr) (cl : List (Str × Addr)) (fp : List Addr), DG (X.blk s H scope (compEnvC scope cl C X.env) fp) tg1 t1)
    (ht1 : ∀ (s : Shared) (H : Hp) (C : Addr) (cl : List (Str × Addr)) (fp : List Addr), DTs (X.blk s H scope (compEnvC scope cl C X.env) fp) W0 ifs1 k1)
    (he : ∀ (s : Shared) (H : Hp) (C : Addr) (cl : List (Str × Addr)) (fp : List Addr), DE (X.blk s H scope (compEnvC scope cl C X.env) fp) W0 elt fe)
    (hv : ∀ i ∈ vs1, i ∈ own.map (·.2) := by decide) (hw : t.within (own.map (·.2)) = true := by decide) (hw1 : t1.within vs1 = true := by decide) (hs : ∀ x, foldedSetIterable iter X.env x = pure x := by intro _; rfl) (hs1 : ∀ env x, foldedSetIterable iter1 env x = pure x := by intro _ _; rfl) :
    DO X W (.ListComp elt [⟨tg, iter, ifs, 0⟩, ⟨tg1, iter1, ifs1, 0⟩] scope pos) (sLc2 fi t k fi1 t1 k1 fe (own.map (·.2)) vs1) :=
  ⟨PE_of (pe_lc2 (g := t.g X.K) (tt := tT (gc X) W0 k) (te := tD (gc X) W0 fe) (wi1 := tI LeF (gc X) W0 fi1) (g1 := t1.g X.K) (tt1 := tT (gc X) W0 k1) hc hN hi.pi (blkOk_by ok) hv (fun s H C cl fp => (hg s H C cl fp).pg) (fun s H C cl fp => by rw [← gc_blk hc]; exact (ht s H C cl fp).pt)
    (fun s H C cl fp => by rw [← gc_blk hc]; exact (hi1 s H C cl fp).pi) (fun s H C cl fp => (hg1 s H C cl fp).pg) (fun s H C cl fp => by rw [← gc_blk hc]; exact (ht1 s H C cl fp).pt) (fun s H C cl fp => by rw [← gc_blk hc]; exact (he s H C cl fp).pe) hs hs1) fun σ H Q h => lc2_wish hw hw1 h⟩
end
/-! ### a def of which nothing is told -/
theorem fd_none {P : Program} {w : World} {K : PySem.W.Frag} {mg : Str → Option Value} {base : Heap} {N ps : List Str} {x : Str} {pa : Arguments} {bd : List Stmt} {sc : Scope} {f : Addr} {fd : FuncData} {k : Nat} (D : FunD K x x pa bd sc [] [] f fd) (S : C8.scC N ps sc = true) (hm : mg x = some (.ref f))
    (hb : ∀ (kV doc pm : Value) (an : Option Addr) (cdv ct : Value) (us : List Value), us.length = ps.length → bindArgs (PySem.W.fnOf x x pa bd sc .none kV doc pm an cdv ct) ⟨us, []⟩ = pure (ps.zip us)) : FdOk P w K mg base k x ps [] (fun _ _ => .bad) :=
  ⟨⟨f, fd, [], [], hm, D.kp, ⟨fun vs H Q E h => spF_len h, fun A outer s H args us vs Q E hr he hb hv ⟨_, _, _, _, _, _, _, z⟩ => z.elim⟩, D.bindsN hb, .nil, fun _ => .nil⟩, fun _ _ _ => rfl⟩
end Ds
set_option Elab.async false
set_option linter.all false
set_option maxRecDepth 100000
set_option maxHeartbeats 1000000
set_option autoImplicit false
/-! DsR: the semantic functions, as rows of simp. -/
namespace Ds
open PySem
section
variable {ρ : En} {st : Sto} {f g h fa fb : SE} {fl : SL} {k l : SB} {i j n m : Nat} {d x y : D} {ds xs ys : List D} {q r : SS} {fi : SI} {lo hi : SP}
@[simp] theorem sVar_eq : sVar i ρ st = (match ρ[i]? with | some (some (.val d)) => .ok d st | _ => .bad) := Eq.trans (Eq.refl _) (Eq.refl _)
@[simp] theorem sOwn_eq : sOwn i ρ st = (match ρ[i]? with | some (some (.own ds)) => .ok (.lst ds) st | _ => .bad) := Eq.trans (Eq.refl _) (Eq.refl _)
@[simp] theorem sC_eq : sC d ρ st = .ok d st := Eq.trans (Eq.refl _) (Eq.refl _)
@[simp] theorem sNil_eq : sNil ρ st = .ok [] st := Eq.trans (Eq.refl _) (Eq.refl _)
def consK' (d : D) (o : Out (List D)) : Out (List D) := o.bind fun ds st2 => .ok (d :: ds) st2
def consK (fl : SL) (ρ : En) (o : Out D) : Out (List D) := o.bind fun d st1 => consK' d (fl ρ st1)
@[simp] theorem consK'_ok : consK' d (.ok ds st) = .ok (d :: ds) st := Eq.trans (Eq.refl _) (Eq.refl _)
@[simp] theorem consK_ok : consK fl ρ (.ok d st) = consK' d (fl ρ st) := Eq.trans (Eq.refl _) (Eq.refl _)
@[simp] theorem sCons_eq : sCons f fl ρ st = consK fl ρ (f ρ st) := Eq.trans (Eq.refl _) (Eq.refl _)
def tupK (o : Out (List D)) : Out D := o.bind fun ds st => if ds.length ≤ sizeLine then .ok (.tup ds) st else .bad
@[simp] theorem tupK_ok : tupK (.ok ds st) = if ds.length ≤ sizeLine then .ok (.tup ds) st else .bad := Eq.trans (Eq.refl _) (Eq.refl _)
@[simp] theorem sTup_eq : sTup fl ρ st = tupK (fl ρ st) := Eq.trans (Eq.refl _) (Eq.refl _)
def lstK (o : Out (List D)) : Out (List D) := o.bind fun ds st => if ds.length ≤ sizeLine then .ok ds st else .bad
@[simp] theorem lstK_ok : lstK (.ok ds st) = if ds.length ≤ sizeLine then .ok ds st else .bad := Eq.trans (Eq.refl _) (Eq.refl _)
@[simp] theorem sLst_eq : sLst fl ρ st = lstK (fl ρ st) := Eq.trans (Eq.refl _) (Eq.refl _)
def s2K' (o : D → D → Sto → Out D) (x : D) (p : Out D) : Out D := p.bind fun y st2 => o x y st2
def s2K (o : D → D → Sto → Out D) (g : SE) (ρ : En) (p : Out D) : Out D := p.bind fun x st1 => s2K' o x (g ρ st1)
@[simp] theorem s2K'_ok {o : D → D → Sto → Out D} : s2K' o x (.ok y st) = o x y st := Eq.trans (Eq.refl _) (Eq.refl _)
@[simp] theorem s2K_ok {o : D → D → Sto → Out D} : s2K o g ρ (.ok x st) = s2K' o x (g ρ st) := Eq.trans (Eq.refl _) (Eq.refl _)
@[simp] theorem s2_eq {o : D → D → Sto → Out D} : s2 o f g ρ st = s2K o g ρ (f ρ st) := Eq.trans (Eq.refl _) (Eq.refl _)
@[simp] theorem s1_eq {o : D → Sto → Out D} : s1 o f ρ st = (f ρ st).bind o := Eq.trans (Eq.refl _) (Eq.refl _)
@[simp] theorem s1O_eq {o : D → Sto → Out (List D)} : s1O o f ρ st = (f ρ st).bind o := Eq.trans (Eq.refl _) (Eq.refl _)
@[simp] theorem sV_eq : sV f ρ st = (f ρ st).bind derefD := Eq.trans (Eq.refl _) (Eq.refl _)
def frzK (o : Out (List D)) : Out D := o.bind fun ds st => .ok (.lst ds) st
@[simp] theorem frzK_ok : frzK (.ok ds st) = .ok (.lst ds) st := Eq.trans (Eq.refl _) (Eq.refl _)
@[simp] theorem sF_eq : sF fl ρ st = frzK (fl ρ st) := Eq.trans (Eq.refl _) (Eq.refl _)
def blK (o : Out Bool) : Out D := o.bind fun b st => .ok (.bl b) st
@[simp] theorem blK_ok {b : Bool} : blK (.ok b st) = .ok (.bl b) st := Eq.trans (Eq.refl _) (Eq.refl _)
@[simp] theorem sB_eq : sB k ρ st = blK (k ρ st) := Eq.trans (Eq.refl _) (Eq.refl _)
def c2K' (o : HC) (x : D) (p : Out D) : Out Bool := p.bind fun y st2 => o x y st2
def c2K (o : HC) (g : SE) (ρ : En) (p : Out D) : Out Bool := p.bind fun x st1 => c2K' o x (g ρ st1)
@[simp] theorem c2K'_ok {o : HC} : c2K' o x (.ok y st) = o x y st := Eq.trans (Eq.refl _) (Eq.refl _)
@[simp] theorem c2K_ok {o : HC} : c2K o g ρ (.ok x st) = c2K' o x (g ρ st) := Eq.trans (Eq.refl _) (Eq.refl _)
@[simp] theorem c2_eq {o : HC} : c2 o f g ρ st = c2K o g ρ (f ρ st) := Eq.trans (Eq.refl _) (Eq.refl _)
def c3K3 (o' : HC) (h : SE) (ρ : En) (y : D) (p : Out Bool) : Out Bool := p.bind fun b st3 => if b = true then (h ρ st3).bind fun z st4 => o' y z st4 else .ok false st3
def c3K2 (o o' : HC) (h : SE) (ρ : En) (x : D) (p : Out D) : Out Bool := p.bind fun y st2 => c3K3 o' h ρ y (o x y st2)
def c3K (o o' : HC) (g h : SE) (ρ : En) (p : Out D) : Out Bool := p.bind fun x st1 => c3K2 o o' h ρ x (g ρ st1)
@[simp] theorem c3K3_t {o' : HC} : c3K3 o' h ρ y (.ok true st) = c2K' o' y (h ρ st) := Eq.trans (Eq.refl _) (Eq.refl _)
@[simp] theorem c3K3_f {o' : HC} : c3K3 o' h ρ y (.ok false st) = .ok false st := Eq.trans (Eq.refl _) (Eq.refl _)
@[simp] theorem c3K2_ok {o o' : HC} : c3K2 o o' h ρ x (.ok y st) = c3K3 o' h ρ y (o x y st) := Eq.trans (Eq.refl _) (Eq.refl _)
@[simp] theorem c3K_ok {o o' : HC} : c3K o o' g h ρ (.ok x st) = c3K2 o o' h ρ x (g ρ st) := Eq.trans (Eq.refl _) (Eq.refl _)
@[simp] theorem c3_eq {o o' : HC} : c3 o o' f g h ρ st = c3K o o' g h ρ (f ρ st) := Eq.trans (Eq.refl _) (Eq.refl _)
@[simp] theorem sTst_eq : sTst f ρ st = (f ρ st).bind boolD := Eq.trans (Eq.refl _) (Eq.refl _)
@[simp] theorem boolD_bl {b : Bool} : boolD (.bl b) st = .ok b st := Eq.trans (Eq.refl _) (Eq.refl _)
def notK (o : Out Bool) : Out Bool := o.bind fun b st => .ok (!b) st
@[simp] theorem notK_ok {b : Bool} : notK (.ok b st) = .ok (!b) st := Eq.trans (Eq.refl _) (Eq.refl _)
@[simp] theorem bNot_eq : bNot k ρ st = notK (k ρ st) := Eq.trans (Eq.refl _) (Eq.refl _)
def andK (l : SB) (ρ : En) (o : Out Bool) : Out Bool := o.bind fun b st => if b = true then l ρ st else .ok false st
@[simp] theorem andK_t : andK l ρ (.ok true st) = l ρ st := Eq.trans (Eq.refl _) (Eq.refl _)
@[simp] theorem andK_f : andK l ρ (.ok false st) = .ok false st := Eq.trans (Eq.refl _) (Eq.refl _)
@[simp] theorem bAnd_eq : bAnd k l ρ st = andK l ρ (k ρ st) := Eq.trans (Eq.refl _) (Eq.refl _)
def orK (l : SB) (ρ : En) (o : Out Bool) : Out Bool := o.bind fun b st => if b = true then .ok true st else l ρ st
@[simp] theorem orK_t : orK l ρ (.ok true st) = .ok true st := Eq.trans (Eq.refl _) (Eq.refl _)
@[simp] theorem orK_f : orK l ρ (.ok false st) = l ρ st := Eq.trans (Eq.refl _) (Eq.refl _)
@[simp] theorem bOr_eq : bOr k l ρ st = orK l ρ (k ρ st) := Eq.trans (Eq.refl _) (Eq.refl _)
def vnotK (o : Out D) : Out D := o.bind fun d st => (boolD d st).bind fun b st => .ok (.bl (!b)) st
@[simp] theorem vnotK_ok {b : Bool} : vnotK (.ok (.bl b) st) = .ok (.bl (!b)) st := Eq.trans (Eq.refl _) (Eq.refl _)
@[simp] theorem vNot_eq : vNot f ρ st = vnotK (f ρ st) := Eq.trans (Eq.refl _) (Eq.refl _)
def vandK (g : SE) (ρ : En) (o : Out D) : Out D := o.bind fun d st => (boolD d st).bind fun b st => if b = true then g ρ st else .ok (.bl false) st
@[simp] theorem vandK_t : vandK g ρ (.ok (.bl true) st) = g ρ st := Eq.trans (Eq.refl _) (Eq.refl _)
@[simp] theorem vandK_f : vandK g ρ (.ok (.bl false) st) = .ok (.bl false) st := Eq.trans (Eq.refl _) (Eq.refl _)
@[simp] theorem vAnd_eq : vAnd f g ρ st = vandK g ρ (f ρ st) := Eq.trans (Eq.refl _) (Eq.refl _)
def vorK (g : SE) (ρ : En) (o : Out D) : Out D := o.bind fun d st => (boolD d st).bind fun b st => if b = true then .ok (.bl true) st else g ρ st
@[simp] theorem vorK_t : vorK g ρ (.ok (.bl true) st) = .ok (.bl true) st := Eq.trans (Eq.refl _) (Eq.refl _)
@[simp] theorem vorK_f : vorK g ρ (.ok (.bl false) st) = g ρ st := Eq.trans (Eq.refl _) (Eq.refl _)
@[simp] theorem vOr_eq : vOr f g ρ st = vorK g ρ (f ρ st) := Eq.trans (Eq.refl _) (Eq.refl _)
def sifK (f g : SE) (ρ : En) (o : Out Bool) : Out D := o.bind fun b st => if b = true then f ρ st else g ρ st
@[simp] theorem sifK_t : sifK f g ρ (.ok true st) = f ρ st := Eq.trans (Eq.refl _) (Eq.refl _)
@[simp] theorem sifK_f : sifK f g ρ (.ok false st) = g ρ st := Eq.trans (Eq.refl _) (Eq.refl _)
@[simp] theorem sIf_eq : sIf k f g ρ st = sifK f g ρ (k ρ st) := Eq.trans (Eq.refl _) (Eq.refl _)
@[simp] theorem sIfO_eq {f g : SL} : sIfO k f g ρ st = (k ρ st).bind fun b st => if b = true then f ρ st else g ρ st := Eq.trans (Eq.refl _) (Eq.refl _)
def ixK3 (i : D) (p : Out D) : Out D := p.bind fun d' st3 => idxD d' i st3
def ixK2 (d : D) (p : Out D) : Out D := p.bind fun i st2 => ixK3 i (derefD d st2)
def ixK (g : SE) (ρ : En) (p : Out D) : Out D := p.bind fun d st1 => ixK2 d (g ρ st1)
@[simp] theorem ixK3_ok : ixK3 x (.ok d st) = idxD d x st := Eq.trans (Eq.refl _) (Eq.refl _)
@[simp] theorem ixK2_ok : ixK2 d (.ok x st) = ixK3 x (derefD d st) := Eq.trans (Eq.refl _) (Eq.refl _)
@[simp] theorem ixK_ok : ixK g ρ (.ok d st) = ixK2 d (g ρ st) := Eq.trans (Eq.refl _) (Eq.refl _)
@[simp] theorem sIx_eq : sIx f g ρ st = ixK g ρ (f ρ st) := Eq.trans (Eq.refl _) (Eq.refl _)
@[simp] theorem pNone_eq : pNone ρ st = .ok none st := Eq.trans (Eq.refl _) (Eq.refl _)
def psK (p : Out D) : Out (Option Int) := p.bind fun d st => match d with
  | .int i => .ok (some i) st
  | _ => .bad
@[simp] theorem psK_ok {a : Int} : psK (.ok (.int a) st) = .ok (some a) st := Eq.trans (Eq.refl _) (Eq.refl _)
@[simp] theorem pSome_eq : pSome f ρ st = psK (f ρ st) := Eq.trans (Eq.refl _) (Eq.refl _)
def slK4 (l u : Option Int) (p : Out D) : Out D := p.bind fun d' st4 => sliceD d' l u st4
def slK3 (d : D) (l : Option Int) (p : Out (Option Int)) : Out D := p.bind fun u st3 => slK4 l u (derefD d st3)
def slK2 (hi : SP) (ρ : En) (d : D) (p : Out (Option Int)) : Out D := p.bind fun l st2 => slK3 d l (hi ρ st2)
def slK (lo hi : SP) (ρ : En) (p : Out D) : Out D := p.bind fun d st1 => slK2 hi ρ d (lo ρ st1)
@[simp] theorem slK4_ok {l u : Option Int} : slK4 l u (.ok d st) = sliceD d l u st := Eq.trans (Eq.refl _) (Eq.refl _)
@[simp] theorem slK3_ok {l u : Option Int} : slK3 d l (.ok u st) = slK4 l u (derefD d st) := Eq.trans (Eq.refl _) (Eq.refl _)
@[simp] theorem slK2_ok {l : Option Int} : slK2 hi ρ d (.ok l st) = slK3 d l (hi ρ st) := Eq.trans (Eq.refl _) (Eq.refl _)
@[simp] theorem slK_ok : slK lo hi ρ (.ok d st) = slK2 hi ρ d (lo ρ st) := Eq.trans (Eq.refl _) (Eq.refl _)
@[simp] theorem sSl_eq : sSl f lo hi ρ st = slK lo hi ρ (f ρ st) := Eq.trans (Eq.refl _) (Eq.refl _)
def valK (p : Out SV) : Out D := p.bind fun r st2 => match r with
  | .val d => .ok d st2
  | .own ds => .ok (.lst ds) st2
def callK (F : SemF) (dv : List D) (ρ : En) (p : Out (List D)) : Out D := p.bind fun ds st1 => valK (withEn ρ (F (ds ++ dv) st1))
@[simp] theorem valK_v : valK (.ok (.val d) st) = .ok d st := Eq.trans (Eq.refl _) (Eq.refl _)
@[simp] theorem valK_o : valK (.ok (.own ds) st) = .ok (.lst ds) st := Eq.trans (Eq.refl _) (Eq.refl _)
@[simp] theorem valK_err {e : Ex} : valK (.err e ρ st) = .err e ρ st := Eq.trans (Eq.refl _) (Eq.refl _)
@[simp] theorem callK_ok {F : SemF} {dv : List D} : callK F dv ρ (.ok ds st) = valK (withEn ρ (F (ds ++ dv) st)) := Eq.trans (Eq.refl _) (Eq.refl _)
@[simp] theorem sCall_eq {F : SemF} {dv : List D} : sCall F dv fl ρ st = callK F dv ρ (fl ρ st) := Eq.trans (Eq.refl _) (Eq.refl _)
def ownK (p : Out SV) : Out (List D) := p.bind fun r st2 => match r with
  | .val _ => .bad
  | .own ds => .ok ds st2
def callOK (F : SemF) (dv : List D) (ρ : En) (p : Out (List D)) : Out (List D) := p.bind fun ds st1 => ownK (withEn ρ (F (ds ++ dv) st1))
@[simp] theorem ownK_o : ownK (.ok (.own ds) st) = .ok ds st := Eq.trans (Eq.refl _) (Eq.refl _)
@[simp] theorem ownK_err {e : Ex} : ownK (.err e ρ st) = .err e ρ st := Eq.trans (Eq.refl _) (Eq.refl _)
@[simp] theorem callOK_ok {F : SemF} {dv : List D} : callOK F dv ρ (.ok ds st) = ownK (withEn ρ (F (ds ++ dv) st)) := Eq.trans (Eq.refl _) (Eq.refl _)
@[simp] theorem sCallO_eq {F : SemF} {dv : List D} : sCallO F dv fl ρ st = callOK F dv ρ (fl ρ st) := Eq.trans (Eq.refl _) (Eq.refl _)
def newK (p : Out (List D)) : Out D := p.bind fun ds st1 => .ok (.ref st1.length) (st1 ++ [some (.lst ds)])
@[simp] theorem newK_ok : newK (.ok ds st) = .ok (.ref st.length) (st ++ [some (.lst ds)]) := Eq.trans (Eq.refl _) (Eq.refl _)
@[simp] theorem sNew_eq : sNew fl ρ st = newK (fl ρ st) := Eq.trans (Eq.refl _) (Eq.refl _)
@[simp] theorem sIt_eq : sIt f ρ st = (f ρ st).bind itD := Eq.trans (Eq.refl _) (Eq.refl _)
def itAK (o : List D → Sto → Out IT) (p : Out (List D)) : Out IT := p.bind o
@[simp] theorem itAK_ok {o : List D → Sto → Out IT} : itAK o (.ok ds st) = o ds st := Eq.trans (Eq.refl _) (Eq.refl _)
@[simp] theorem sItA_eq {o : List D → Sto → Out IT} : sItA o fl ρ st = itAK o (fl ρ st) := Eq.trans (Eq.refl _) (Eq.refl _)
@[simp] theorem sItO_eq : sItO i ρ st = (match ρ[i]? with | some (some (.own ds)) => .ok (.fix ds) st | _ => .bad) := Eq.trans (Eq.refl _) (Eq.refl _)
@[simp] theorem qNil_eq : qNil ρ st = .ok (.nx ρ) st := Eq.trans (Eq.refl _) (Eq.refl _)
def seqK (r : SS) (o : Out Fl) : Out Fl := o.bind fun fl st1 => match fl with | .nx ρ1 => r ρ1 st1 | fl => .ok fl st1
@[simp] theorem seqK_nx : seqK r (.ok (.nx ρ) st) = r ρ st := Eq.trans (Eq.refl _) (Eq.refl _)
@[simp] theorem seqK_rt {s : SV} : seqK r (.ok (.rt s) st) = .ok (.rt s) st := Eq.trans (Eq.refl _) (Eq.refl _)
@[simp] theorem seqK_bk : seqK r (.ok (.bk ρ) st) = .ok (.bk ρ) st := Eq.trans (Eq.refl _) (Eq.refl _)
@[simp] theorem seqK_ct : seqK r (.ok (.ct ρ) st) = .ok (.ct ρ) st := Eq.trans (Eq.refl _) (Eq.refl _)
@[simp] theorem seqK_err {x : Ex} : seqK r (.err x ρ st) = .err x ρ st := Eq.trans (Eq.refl _) (Eq.refl _)
@[simp] theorem qSeq_eq : qSeq q r ρ st = seqK r (q ρ st) := Eq.trans (Eq.refl _) (Eq.refl _)
@[simp] theorem qBreak_eq : qBreak ρ st = .ok (.bk ρ) st := Eq.trans (Eq.refl _) (Eq.refl _)
@[simp] theorem qCont_eq : qCont ρ st = .ok (.ct ρ) st := Eq.trans (Eq.refl _) (Eq.refl _)
@[simp] theorem setV_eq : setV i d ρ st = (if i < ρ.length then .ok (.nx (ρ.set i (some (.val d)))) st else .bad) := Eq.trans (Eq.refl _) (Eq.refl _)
@[simp] theorem setO_eq : setO i ds ρ st = (if i < ρ.length then .ok (.nx (ρ.set i (some (.own ds)))) st else .bad) := Eq.trans (Eq.refl _) (Eq.refl _)
def setK (i : Nat) (ρ : En) (p : Out D) : Out Fl := p.bind fun d st1 => setV i d ρ st1
@[simp] theorem setK_ok : setK i ρ (.ok d st) = if i < ρ.length then .ok (.nx (ρ.set i (some (.val d)))) st else .bad := Eq.trans (Eq.refl _) (Eq.refl _)
@[simp] theorem setK_err {e : Ex} {ρ' : En} : setK i ρ (.err e ρ' st) = .err e ρ' st := Eq.trans (Eq.refl _) (Eq.refl _)
@[simp] theorem qSet_eq : qSet i f ρ st = setK i ρ (f ρ st) := Eq.trans (Eq.refl _) (Eq.refl _)
def setOK (i : Nat) (ρ : En) (p : Out (List D)) : Out Fl := p.bind fun d st1 => setO i d ρ st1
@[simp] theorem setOK_ok : setOK i ρ (.ok ds st) = if i < ρ.length then .ok (.nx (ρ.set i (some (.own ds)))) st else .bad := Eq.trans (Eq.refl _) (Eq.refl _)
@[simp] theorem qSetO_eq : qSetO i fl ρ st = setOK i ρ (fl ρ st) := Eq.trans (Eq.refl _) (Eq.refl _)
@[simp] theorem bind_nm : Tgt.bind (.nm i) d ρ = if i < ρ.length then some (ρ.set i (some (.val d))) else none := by unfold Tgt.bind; rfl
@[simp] theorem bind_tp {ts : List Tgt} : Tgt.bind (.tp ts) (.tup ds) ρ = Tgt.binds ts ds ρ := by unfold Tgt.bind; rfl
@[simp] theorem binds_nil : Tgt.binds [] [] ρ = some ρ := by unfold Tgt.binds; rfl
@[simp] theorem binds_cons {t : Tgt} {ts : List Tgt} : Tgt.binds (t :: ts) (d :: ds) ρ = (t.bind d ρ).bind fun ρ1 => Tgt.binds ts ds ρ1 := by rw [Tgt.binds]
def asgR (ρ' : Option En) (st : Sto) : Out Fl := match ρ' with
  | some ρ' => .ok (.nx ρ') st
  | none => .bad
@[simp] theorem asgR_some {ρ' : En} : asgR (some ρ') st = .ok (.nx ρ') st := Eq.trans (Eq.refl _) (Eq.refl _)
def asgK (t : Tgt) (ρ : En) (p : Out D) : Out Fl := p.bind fun d st1 => asgR (t.bind d ρ) st1
@[simp] theorem asgK_ok {t : Tgt} : asgK t ρ (.ok d st) = asgR (t.bind d ρ) st := Eq.trans (Eq.refl _) (Eq.refl _)
@[simp] theorem asgK_err {t : Tgt} {e : Ex} {ρ' : En} : asgK t ρ (.err e ρ' st) = .err e ρ' st := Eq.trans (Eq.refl _) (Eq.refl _)
@[simp] theorem qAsg_eq {t : Tgt} : qAsg t f ρ st = asgK t ρ (f ρ st) := by
  unfold qAsg asgK
  cases f ρ st with
  | ok d st1 =>
    simp only [Out.bind_ok]
    cases t.bind d ρ <;> rfl
  | _ => rfl
def dropK (ρ : En) (p : Out D) : Out Fl := p.bind fun _ st1 => .ok (.nx ρ) st1
@[simp] theorem dropK_ok : dropK ρ (.ok d st) = .ok (.nx ρ) st := Eq.trans (Eq.refl _) (Eq.refl _)
@[simp] theorem dropK_err {e : Ex} {ρ' : En} : dropK ρ (.err e ρ' st) = .err e ρ' st := Eq.trans (Eq.refl _) (Eq.refl _)
@[simp] theorem qDrop_eq : qDrop f ρ st = dropK ρ (f ρ st) := Eq.trans (Eq.refl _) (Eq.refl _)
def retK (p : Out D) : Out Fl := p.bind fun d st1 => .ok (.rt (.val d)) st1
@[simp] theorem retK_ok : retK (.ok d st) = .ok (.rt (.val d)) st := Eq.trans (Eq.refl _) (Eq.refl _)
@[simp] theorem retK_err {e : Ex} {ρ' : En} : retK (.err e ρ' st) = .err e ρ' st := Eq.trans (Eq.refl _) (Eq.refl _)
@[simp] theorem qRet_eq : qRet f ρ st = retK (f ρ st) := Eq.trans (Eq.refl _) (Eq.refl _)
def retOK (p : Out (List D)) : Out Fl := p.bind fun d st1 => .ok (.rt (.own d)) st1
@[simp] theorem retOK_ok : retOK (.ok ds st) = .ok (.rt (.own ds)) st := Eq.trans (Eq.refl _) (Eq.refl _)
@[simp] theorem qRetO_eq : qRetO fl ρ st = retOK (fl ρ st) := Eq.trans (Eq.refl _) (Eq.refl _)
@[simp] theorem qRetN_eq : qRetN ρ st = .ok (.rt (.val .non)) st := Eq.trans (Eq.refl _) (Eq.refl _)
@[simp] theorem qRetV_eq : qRetV i ρ st = (match ρ[i]? with | some (some (.own ds)) => .ok (.rt (.own ds)) st | _ => .bad) := Eq.trans (Eq.refl _) (Eq.refl _)
def ifK (q r : SS) (ρ : En) (o : Out Bool) : Out Fl := o.bind fun b st1 => if b = true then q ρ st1 else r ρ st1
@[simp] theorem ifK_t : ifK q r ρ (.ok true st) = q ρ st := Eq.trans (Eq.refl _) (Eq.refl _)
@[simp] theorem ifK_f : ifK q r ρ (.ok false st) = r ρ st := Eq.trans (Eq.refl _) (Eq.refl _)
@[simp] theorem qIf_eq : qIf k q r ρ st = ifK q r ρ (k ρ st) := Eq.trans (Eq.refl _) (Eq.refl _)
@[simp] theorem qFrz_eq : qFrz i q ρ st = (match ρ[i]? with | some (some (.own xs)) => q (ρ.set i (some (.val (.lst xs)))) st | _ => .bad) := Eq.trans (Eq.refl _) (Eq.refl _)
@[simp] theorem qM_eq {o : KM} : qM i o fl ρ st = (match ρ[i]? with
  | some (some (.own xs)) => (fl ρ st).bind fun ys st1 => (match o xs ys with
    | some zs => .ok (.nx (ρ.set i (some (.own zs)))) st1
    | none => .bad)
  | _ => .bad) := Eq.trans (Eq.refl _) (Eq.refl _)
@[simp] theorem qPop_eq {t : Tgt} : qPop t i ρ st = (match ρ[i]? with
  | some (some (.own xs)) => (match xs.getLast? with
    | some d => (match t.bind d (ρ.set i (some (.own xs.dropLast))) with
      | some ρ' => .ok (.nx ρ') st
      | none => .bad)
    | none => .bad)
  | _ => .bad) := Eq.trans (Eq.refl _) (Eq.refl _)
def raiseK (c : Str) (fs : List Str) (ρ : En) (p : Out (List D)) : Out Fl := p.bind fun ds st1 => raiseX c fs ρ ds st1
@[simp] theorem raiseK_ok {c : Str} {fs : List Str} : raiseK c fs ρ (.ok ds st) = raiseX c fs ρ ds st := Eq.trans (Eq.refl _) (Eq.refl _)
@[simp] theorem qRaise_eq {c : Str} {fs : List Str} : qRaise c fs fl ρ st = raiseK c fs ρ (fl ρ st) := Eq.trans (Eq.refl _) (Eq.refl _)
@[simp] theorem finish_nx : finish (.ok (.nx ρ) st) = .ok (.val .non) st := Eq.trans (Eq.refl _) (Eq.refl _)
@[simp] theorem finish_rt {s : SV} : finish (.ok (.rt s) st) = .ok s st := Eq.trans (Eq.refl _) (Eq.refl _)
@[simp] theorem finish_err {e : Ex} : finish (.err e ρ st) = .err e [] st := Eq.trans (Eq.refl _) (Eq.refl _)
@[simp] theorem finish_bad : finish (.bad : Out Fl) = .bad := Eq.trans (Eq.refl _) (Eq.refl _)
@[simp] theorem defF_eq {B : SS} : defF n m B ds st = if ds.length = n then finish (B (startE m ds) st) else .bad := Eq.trans (Eq.refl _) (Eq.refl _)
@[simp] theorem startE_eq : startE n ds = (ds.map fun d => some (.val d)) ++ List.replicate (n - ds.length) none := Eq.trans (Eq.refl _) (Eq.refl _)
@[simp] theorem addD_ii {a b : Int} : addD (.int a) (.int b) st = .ok (.int (a + b)) st := Eq.trans (Eq.refl _) (Eq.refl _)
@[simp] theorem subD_ii {a b : Int} : subD (.int a) (.int b) st = .ok (.int (a - b)) st := Eq.trans (Eq.refl _) (Eq.refl _)
@[simp] theorem negD_i {a : Int} : negD (.int a) st = .ok (.int (-a)) st := Eq.trans (Eq.refl _) (Eq.refl _)
@[simp] theorem lenD_tup : lenD (.tup xs) st = .ok (.int xs.length) st := Eq.trans (Eq.refl _) (Eq.refl _)
@[simp] theorem lenD_lst : lenD (.lst xs) st = .ok (.int xs.length) st := Eq.trans (Eq.refl _) (Eq.refl _)
@[simp] theorem truD_lst : truD (.lst xs) st = .ok (!xs.isEmpty) st := Eq.trans (Eq.refl _) (Eq.refl _)
@[simp] theorem truD_tup : truD (.tup xs) st = .ok (!xs.isEmpty) st := Eq.trans (Eq.refl _) (Eq.refl _)
@[simp] theorem truD_bl {b : Bool} : truD (.bl b) st = .ok b st := Eq.trans (Eq.refl _) (Eq.refl _)
@[simp] theorem ordD_ii {a b : Int} {u v : Bool} : ordD u v (.int a) (.int b) st = .ok (u != decide (if v then b < a else a < b)) st := Eq.trans (Eq.refl _) (Eq.refl _)
@[simp] theorem itD_tup : itD (.tup xs) st = .ok (.fix xs) st := Eq.trans (Eq.refl _) (Eq.refl _)
@[simp] theorem itD_lst : itD (.lst xs) st = .ok (.fix xs) st := Eq.trans (Eq.refl _) (Eq.refl _)
@[simp] theorem isi_tuple_non : isiD "tuple" .non st = .ok (.bl false) st := by
  have e : L2.kitB "NoneType" "tuple" = some false := by decide +kernel
  show (match L2.kitB "NoneType" "tuple" with | some b => Out.ok (D.bl b) st | none => .bad) = _
  rw [e]
@[simp] theorem isi_tuple_bl {b : Bool} : isiD "tuple" (.bl b) st = .ok (.bl false) st := by
  have e : L2.kitB "bool" "tuple" = some false := by decide +kernel
  show (match L2.kitB "bool" "tuple" with | some b => Out.ok (D.bl b) st | none => .bad) = _
  rw [e]
@[simp] theorem isi_tuple_int {a : Int} : isiD "tuple" (.int a) st = .ok (.bl false) st := by
  have e : L2.kitB "int" "tuple" = some false := by decide +kernel
  show (match L2.kitB "int" "tuple" with | some b => Out.ok (D.bl b) st | none => .bad) = _
  rw [e]
@[simp] theorem isi_tuple_str {z : Str} : isiD "tuple" (.str z) st = .ok (.bl false) st := by
  have e : L2.kitB "str" "tuple" = some false := by decide +kernel
  show (match L2.kitB "str" "tuple" with | some b => Out.ok (D.bl b) st | none => .bad) = _
  rw [e]
@[simp] theorem isi_tuple_tup : isiD "tuple" (.tup xs) st = .ok (.bl true) st := by
  have e : L2.kitB "tuple" "tuple" = some true := by decide +kernel
  show (match L2.kitB "tuple" "tuple" with | some b => Out.ok (D.bl b) st | none => .bad) = _
  rw [e]
@[simp] theorem isi_tuple_lst : isiD "tuple" (.lst xs) st = .ok (.bl false) st := by
  have e : L2.kitB "list" "tuple" = some false := by decide +kernel
  show (match L2.kitB "list" "tuple" with | some b => Out.ok (D.bl b) st | none => .bad) = _
  rw [e]
@[simp] theorem isi_list_non : isiD "list" .non st = .ok (.bl false) st := by
  have e : L2.kitB "NoneType" "list" = some false := by decide +kernel
  show (match L2.kitB "NoneType" "list" with | some b => Out.ok (D.bl b) st | none => .bad) = _
  rw [e]
@[simp] theorem isi_list_bl {b : Bool} : isiD "list" (.bl b) st = .ok (.bl false) st := by
  have e : L2.kitB "bool" "list" = some false := by decide +kernel
  show (match L2.kitB "bool" "list" with | some b => Out.ok (D.bl b) st | none => .bad) = _
  rw [e]
@[simp] theorem isi_list_int {a : Int} : isiD "list" (.int a) st = .ok (.bl false) st := by
  have e : L2.kitB "int" "list" = some false := by decide +kernel
  show (match L2.kitB "int" "list" with | some b => Out.ok (D.bl b) st | none => .bad) = _
  rw [e]
@[simp] theorem isi_list_str {z : Str} : isiD "list" (.str z) st = .ok (.bl false) st := by
  have e : L2.kitB "str" "list" = some false := by decide +kernel
  show (match L2.kitB "str" "list" with | some b => Out.ok (D.bl b) st | none => .bad) = _
  rw [e]
@[simp] theorem isi_list_tup : isiD "list" (.tup xs) st = .ok (.bl false) st := by
  have e : L2.kitB "tuple" "list" = some false := by decide +kernel
  show (match L2.kitB "tuple" "list" with | some b => Out.ok (D.bl b) st | none => .bad) = _
  rw [e]
@[simp] theorem isi_list_lst : isiD "list" (.lst xs) st = .ok (.bl true) st := by
  have e : L2.kitB "list" "list" = some true := by decide +kernel
  show (match L2.kitB "list" "list" with | some b => Out.ok (D.bl b) st | none => .bad) = _
  rw [e]
@[simp] theorem isi_int_non : isiD "int" .non st = .ok (.bl false) st := by
  have e : L2.kitB "NoneType" "int" = some false := by decide +kernel
  show (match L2.kitB "NoneType" "int" with | some b => Out.ok (D.bl b) st | none => .bad) = _
  rw [e]
@[simp] theorem isi_int_bl {b : Bool} : isiD "int" (.bl b) st = .ok (.bl true) st := by
  have e : L2.kitB "bool" "int" = some true := by decide +kernel
  show (match L2.kitB "bool" "int" with | some b => Out.ok (D.bl b) st | none => .bad) = _
  rw [e]
@[simp] theorem isi_int_int {a : Int} : isiD "int" (.int a) st = .ok (.bl true) st := by
  have e : L2.kitB "int" "int" = some true := by decide +kernel
  show (match L2.kitB "int" "int" with | some b => Out.ok (D.bl b) st | none => .bad) = _
  rw [e]
@[simp] theorem isi_int_str {z : Str} : isiD "int" (.str z) st = .ok (.bl false) st := by
  have e : L2.kitB "str" "int" = some false := by decide +kernel
  show (match L2.kitB "str" "int" with | some b => Out.ok (D.bl b) st | none => .bad) = _
  rw [e]
@[simp] theorem isi_int_tup : isiD "int" (.tup xs) st = .ok (.bl false) st := by
  have e : L2.kitB "tuple" "int" = some false := by decide +kernel
  show (match L2.kitB "tuple" "int" with | some b => Out.ok (D.bl b) st | none => .bad) = _
  rw [e]
@[simp] theorem isi_int_lst : isiD "int" (.lst xs) st = .ok (.bl false) st := by
  have e : L2.kitB "list" "int" = some false := by decide +kernel
  show (match L2.kitB "list" "int" with | some b => Out.ok (D.bl b) st | none => .bad) = _
  rw [e]
@[simp] theorem isi_bool_non : isiD "bool" .non st = .ok (.bl false) st := by
  have e : L2.kitB "NoneType" "bool" = some false := by decide +kernel
  show (match L2.kitB "NoneType" "bool" with | some b => Out.ok (D.bl b) st | none => .bad) = _
  rw [e]
@[simp] theorem isi_bool_bl {b : Bool} : isiD "bool" (.bl b) st = .ok (.bl true) st := by
  have e : L2.kitB "bool" "bool" = some true := by decide +kernel
  show (match L2.kitB "bool" "bool" with | some b => Out.ok (D.bl b) st | none => .bad) = _
  rw [e]
@[simp] theorem isi_bool_int {a : Int} : isiD "bool" (.int a) st = .ok (.bl false) st := by
  have e : L2.kitB "int" "bool" = some false := by decide +kernel
  show (match L2.kitB "int" "bool" with | some b => Out.ok (D.bl b) st | none => .bad) = _
  rw [e]
@[simp] theorem isi_bool_str {z : Str} : isiD "bool" (.str z) st = .ok (.bl false) st := by
  have e : L2.kitB "str" "bool" = some false := by decide +kernel
  show (match L2.kitB "str" "bool" with | some b => Out.ok (D.bl b) st | none => .bad) = _
  rw [e]
@[simp] theorem isi_bool_tup : isiD "bool" (.tup xs) st = .ok (.bl false) st := by
  have e : L2.kitB "tuple" "bool" = some false := by decide +kernel
  show (match L2.kitB "tuple" "bool" with | some b => Out.ok (D.bl b) st | none => .bad) = _
  rw [e]
@[simp] theorem isi_bool_lst : isiD "bool" (.lst xs) st = .ok (.bl false) st := by
  have e : L2.kitB "list" "bool" = some false := by decide +kernel
  show (match L2.kitB "list" "bool" with | some b => Out.ok (D.bl b) st | none => .bad) = _
  rw [e]
@[simp] theorem isi_str_non : isiD "str" .non st = .ok (.bl false) st := by
  have e : L2.kitB "NoneType" "str" = some false := by decide +kernel
  show (match L2.kitB "NoneType" "str" with | some b => Out.ok (D.bl b) st | none => .bad) = _
  rw [e]
@[simp] theorem isi_str_bl {b : Bool} : isiD "str" (.bl b) st = .ok (.bl false) st := by
  have e : L2.kitB "bool" "str" = some false := by decide +kernel
  show (match L2.kitB "bool" "str" with | some b => Out.ok (D.bl b) st | none => .bad) = _
  rw [e]
@[simp] theorem isi_str_int {a : Int} : isiD "str" (.int a) st = .ok (.bl false) st := by
  have e : L2.kitB "int" "str" = some false := by decide +kernel
  show (match L2.kitB "int" "str" with | some b => Out.ok (D.bl b) st | none => .bad) = _
  rw [e]
@[simp] theorem isi_str_str {z : Str} : isiD "str" (.str z) st = .ok (.bl true) st := by
  have e : L2.kitB "str" "str" = some true := by decide +kernel
  show (match L2.kitB "str" "str" with | some b => Out.ok (D.bl b) st | none => .bad) = _
  rw [e]
@[simp] theorem isi_str_tup : isiD "str" (.tup xs) st = .ok (.bl false) st := by
  have e : L2.kitB "tuple" "str" = some false := by decide +kernel
  show (match L2.kitB "tuple" "str" with | some b => Out.ok (D.bl b) st | none => .bad) = _
  rw [e]
@[simp] theorem isi_str_lst : isiD "str" (.lst xs) st = .ok (.bl false) st := by
  have e : L2.kitB "list" "str" = some false := by decide +kernel
  show (match L2.kitB "list" "str" with | some b => Out.ok (D.bl b) st | none => .bad) = _
  rw [e]
@[simp] theorem isi_dict_non : isiD "dict" .non st = .ok (.bl false) st := by
  have e : L2.kitB "NoneType" "dict" = some false := by decide +kernel
  show (match L2.kitB "NoneType" "dict" with | some b => Out.ok (D.bl b) st | none => .bad) = _
  rw [e]
@[simp] theorem isi_dict_bl {b : Bool} : isiD "dict" (.bl b) st = .ok (.bl false) st := by
  have e : L2.kitB "bool" "dict" = some false := by decide +kernel
  show (match L2.kitB "bool" "dict" with | some b => Out.ok (D.bl b) st | none => .bad) = _
  rw [e]
@[simp] theorem isi_dict_int {a : Int} : isiD "dict" (.int a) st = .ok (.bl false) st := by
  have e : L2.kitB "int" "dict" = some false := by decide +kernel
  show (match L2.kitB "int" "dict" with | some b => Out.ok (D.bl b) st | none => .bad) = _
  rw [e]
@[simp] theorem isi_dict_str {z : Str} : isiD "dict" (.str z) st = .ok (.bl false) st := by
  have e : L2.kitB "str" "dict" = some false := by decide +kernel
  show (match L2.kitB "str" "dict" with | some b => Out.ok (D.bl b) st | none => .bad) = _
  rw [e]
@[simp] theorem isi_dict_tup : isiD "dict" (.tup xs) st = .ok (.bl false) st := by
  have e : L2.kitB "tuple" "dict" = some false := by decide +kernel
  show (match L2.kitB "tuple" "dict" with | some b => Out.ok (D.bl b) st | none => .bad) = _
  rw [e]
@[simp] theorem isi_dict_lst : isiD "dict" (.lst xs) st = .ok (.bl false) st := by
  have e : L2.kitB "list" "dict" = some false := by decide +kernel
  show (match L2.kitB "list" "dict" with | some b => Out.ok (D.bl b) st | none => .bad) = _
  rw [e]
/-- what a comprehension makes of what it walks -/
def lcR (it : IT) (step : D → Sto → Out (Option D)) (st : Sto) : Out (List D) := match it.now st with
  | none => .bad
  | some ds => lcF it step (ds.length + 1) 0 [] st
def lcK (t : Tgt) (k : SB) (f : SE) (vs : List Nat) (ρ : En) (p : Out IT) : Out (List D) := p.bind fun it st1 => lcR it (stepC t k f (wipeE ρ vs)) st1
@[simp] theorem lcK_ok {t : Tgt} {vs : List Nat} {it : IT} : lcK t k f vs ρ (.ok it st) = lcR it (stepC t k f (wipeE ρ vs)) st := Eq.trans (Eq.refl _) (Eq.refl _)
@[simp] theorem sLc_eq {t : Tgt} {vs : List Nat} : sLc fi t k f vs ρ st = lcK t k f vs ρ (fi ρ st) := Eq.trans (Eq.refl _) (Eq.refl _)
@[simp] theorem lcR_fix {step : D → Sto → Out (Option D)} : lcR (.fix ds) step st = lcL step ds [] st := lcF_fix step ds ds 0 [] st rfl
theorem stepC_eq {t : Tgt} : stepC t k f ρ d st = (match t.bind d ρ with | some ρ' => shield (turnC k f ρ' st) | none => .bad) := rfl
def tcK (f : SE) (ρ : En) (p : Out Bool) : Out (Option D) := p.bind fun b st1 => if b = true then (f ρ st1).bind fun y st2 => .ok (some y) st2 else .ok none st1
def someK (p : Out D) : Out (Option D) := p.bind fun y st2 => .ok (some y) st2
@[simp] theorem someK_ok : someK (.ok d st) = .ok (some d) st := Eq.trans (Eq.refl _) (Eq.refl _)
@[simp] theorem tcK_t : tcK f ρ (.ok true st) = someK (f ρ st) := Eq.trans (Eq.refl _) (Eq.refl _)
@[simp] theorem tcK_f : tcK f ρ (.ok false st) = .ok none st := Eq.trans (Eq.refl _) (Eq.refl _)
@[simp] theorem turnC_eq : turnC k f ρ st = tcK f ρ (k ρ st) := Eq.trans (Eq.refl _) (Eq.refl _)
@[simp] theorem bYes_eq : bYes ρ st = .ok true st := Eq.trans (Eq.refl _) (Eq.refl _)
@[simp] theorem wipeE_nil : wipeE ρ [] = ρ := Eq.trans (Eq.refl _) (Eq.refl _)
@[simp] theorem wipeE_cons {vs : List Nat} : wipeE ρ (n :: vs) = (wipeE ρ vs).set n none := Eq.trans (Eq.refl _) (Eq.refl _)
/-- what a for loop makes of what it walks -/
def forR (it : IT) (step : D → SS) (ρ : En) (st : Sto) : Out Fl := match it.now st with
  | none => .bad
  | some ds => forF it step (ds.length + 1) 0 ρ st
def forK (t : Tgt) (q : SS) (ρ : En) (p : Out IT) : Out Fl := p.bind fun it st1 => forR it (stepT t q) ρ st1
@[simp] theorem forK_ok {t : Tgt} {it : IT} : forK t q ρ (.ok it st) = forR it (stepT t q) ρ st := Eq.trans (Eq.refl _) (Eq.refl _)
@[simp] theorem qFor_eq {t : Tgt} : qFor fi t q ρ st = forK t q ρ (fi ρ st) := Eq.trans (Eq.refl _) (Eq.refl _)
@[simp] theorem forR_fix {step : D → SS} : forR (.fix ds) step ρ st = forL step ds ρ st := forF_fix step ds ds 0 ρ st rfl
theorem stepT_eq {t : Tgt} : stepT t q d ρ st = (match t.bind d ρ with | some ρ' => q ρ' st | none => .bad) := rfl
@[simp] theorem forL_nil {step : D → SS} : forL step [] ρ st = .ok (.nx ρ) st := Eq.trans (Eq.refl _) (Eq.refl _)
@[simp] theorem tupOf_lst : tupOfD (.lst xs) st = .ok (.tup xs) st := Eq.trans (Eq.refl _) (Eq.refl _)
@[simp] theorem kApp_eq : kApp xs [y] = if xs.length < sizeLine then some (xs ++ [y]) else none := Eq.trans (Eq.refl _) (Eq.refl _)
end
end Ds
set_option Elab.async false
set_option linter.all false
set_option maxRecDepth 100000
set_option maxHeartbeats 1000000
set_option autoImplicit false
/-! DsS: == and != whose left side may be a shared list. -/
namespace Ds
open PySem PySem.Spec PyProof.Rows L2
def eqR : HC := fun x y st => (derefD x st).bind fun x' st' => eqD x' y st'
def neR : HC := fun x y st => (derefD x st).bind fun x' st' => neD x' y st'
theorem eqR_ok {G : Gc} {W : WX} : OpC G W (rEqP G.K id) eqR := by
  intro w x y u v Q g rx ry wp
  obtain ⟨d', rv, q⟩ := derefS g rx (WpE.bind wp)
  unfold eqD at q
  split at q
  · rename_i z
    obtain ⟨z1, z2, z3⟩ := z
    exact ⟨d'.py, y.py, rv.dp z1, ry.dp z2, z1, z2, z3, WpE.now g q⟩
  · exact q.elim
theorem neR_ok {G : Gc} {W : WX} : OpC G W (rEqP G.K not) neR := by
  intro w x y u v Q g rx ry wp
  obtain ⟨d', rv, q⟩ := derefS g rx (WpE.bind wp)
  unfold neD at q
  split at q
  · rename_i z
    obtain ⟨z1, z2, z3⟩ := z
    exact ⟨d'.py, y.py, rv.dp z1, ry.dp z2, z1, z2, z3, WpE.now g q⟩
  · exact q.elim
theorem eqR_ref {n : Nat} {ds : List D} {y : D} {st : Sto} (h : st[n]? = some (some (.lst ds))) : eqR (.ref n) y st = eqD (.lst ds) y st := by
  unfold eqR
  rw [derefD_ref h, Out.bind_ok]
theorem neR_ref {n : Nat} {ds : List D} {y : D} {st : Sto} (h : st[n]? = some (some (.lst ds))) : neR (.ref n) y st = neD (.lst ds) y st := by
  unfold neR
  rw [derefD_ref h, Out.bind_ok]
end Ds
set_option Elab.async false
set_option linter.all false
set_option maxRecDepth 100000
set_option maxHeartbeats 0
namespace KH
open PySem PySem.Spec PyProof.Rows L2
abbrev prog : Program := PySem.Challenge.pw_keysinline_k53_parts_exchanged_in_kinds
def top (i : Nat) : Stmt := prog.main.body.getD i (.Pass ⟨0, 0, 0, 0⟩)
def s_good_name : Stmt := top 12
def s_good_word : Stmt := top 13
def s_tuple_within : Stmt := top 14
def s_good_entries : Stmt := top 15
def s_good_node : Stmt := top 16
def s_inner_kinds : Stmt := top 17
def s_own_words : Stmt := top 18
def s_kind_sizes : Stmt := top 19
def s_check_kind : Stmt := top 20
def s_other_direction : Stmt := top 21
def s_node_rows : Stmt := top 22
def s_nodes : Stmt := top 23
def s_node_or_none : Stmt := top 24
def s_node_at : Stmt := top 25
def s_with_inner : Stmt := top 26
def s_put_at : Stmt := top 27
def s_letters_of : Stmt := top 28
def s_depth_of : Stmt := top 29
def s_words_of : Stmt := top 30
def s_branch_count : Stmt := top 31
def s_places_of : Stmt := top 32
def s_decision_node : Stmt := top 33
def s_branches_of : Stmt := top 34
def s_direction_at : Stmt := top 35
def s_line_for : Stmt := top 36
def s_line_of : Stmt := top 37
def s__law_store : Stmt := top 39
def s__law_refill : Stmt := top 40
def s__law_mix : Stmt := top 41
def s__law_take : Stmt := top 42
def s__law_pick : Stmt := top 43
def s__law_same : Stmt := top 44
def s__law_name : Stmt := top 45
def s__law_unlike_name : Stmt := top 46
def s__law_pool_names : Stmt := top 47
def s__law_split_words : Stmt := top 48
def s__law_odd_word : Stmt := top 49
def s__law_branch_words : Stmt := top 50
def s__law_some_kind : Stmt := top 51
def s__law_any_kind : Stmt := top 52
def s__law_inner : Stmt := top 53
def s__law_walk : Stmt := top 54
def s__law_with : Stmt := top 55
def s__law_put : Stmt := top 56
def s__law_line : Stmt := top 57
def s__law_lists : Stmt := top 58
def s__law_spliced : Stmt := top 59
def s__law_shows : Stmt := top 60
def s__law_nodes_hold : Stmt := top 61
def s__law_refused : Stmt := top 62
def s_law : Stmt := top 63
def s_BadKind_init : Stmt := inClass (top 2) 0
def s_BadPath_init : Stmt := inClass (top 3) 0
def s_TooMany_init : Stmt := inClass (top 4) 0
def d_good_name : He.DefD := ⟨("good_name", none), "good_name", "good_name", defArgs s_good_name, defBody s_good_name, defScope s_good_name, [], []⟩
def d_good_word : He.DefD := ⟨("good_word", none), "good_word", "good_word", defArgs s_good_word, defBody s_good_word, defScope s_good_word, [], []⟩
def d_tuple_within : He.DefD := ⟨("tuple_within", none), "tuple_within", "tuple_within", defArgs s_tuple_within, defBody s_tuple_within, defScope s_tuple_within, [], []⟩
def d_good_entries : He.DefD := ⟨("good_entries", none), "good_entries", "good_entries", defArgs s_good_entries, defBody s_good_entries, defScope s_good_entries, [], []⟩
def d_good_node : He.DefD := ⟨("good_node", none), "good_node", "good_node", defArgs s_good_node, defBody s_good_node, defScope s_good_node, [], []⟩
def d_inner_kinds : He.DefD := ⟨("inner_kinds", none), "inner_kinds", "inner_kinds", defArgs s_inner_kinds, defBody s_inner_kinds, defScope s_inner_kinds, [], []⟩
def d_own_words : He.DefD := ⟨("own_words", none), "own_words", "own_words", defArgs s_own_words, defBody s_own_words, defScope s_own_words, [], []⟩
def d_kind_sizes : He.DefD := ⟨("kind_sizes", none), "kind_sizes", "kind_sizes", defArgs s_kind_sizes, defBody s_kind_sizes, defScope s_kind_sizes, [], []⟩
def d_check_kind : He.DefD := ⟨("check_kind", none), "check_kind", "check_kind", defArgs s_check_kind, defBody s_check_kind, defScope s_check_kind, [], [("uses", .bl false)]⟩
def d_other_direction : He.DefD := ⟨("other_direction", none), "other_direction", "other_direction", defArgs s_other_direction, defBody s_other_direction, defScope s_other_direction, [], []⟩
def d_node_rows : He.DefD := ⟨("node_rows", none), "node_rows", "node_rows", defArgs s_node_rows, defBody s_node_rows, defScope s_node_rows, [], []⟩
def d_nodes : He.DefD := ⟨("nodes", none), "nodes", "nodes", defArgs s_nodes, defBody s_nodes, defScope s_nodes, [], []⟩
def d_node_or_none : He.DefD := ⟨("node_or_none", none), "node_or_none", "node_or_none", defArgs s_node_or_none, defBody s_node_or_none, defScope s_node_or_none, [], []⟩
def d_node_at : He.DefD := ⟨("node_at", none), "node_at", "node_at", defArgs s_node_at, defBody s_node_at, defScope s_node_at, [], []⟩
def d_with_inner : He.DefD := ⟨("with_inner", none), "with_inner", "with_inner", defArgs s_with_inner, defBody s_with_inner, defScope s_with_inner, [], []⟩
def d_put_at : He.DefD := ⟨("put_at", none), "put_at", "put_at", defArgs s_put_at, defBody s_put_at, defScope s_put_at, [], []⟩
def d_letters_of : He.DefD := ⟨("letters_of", none), "letters_of", "letters_of", defArgs s_letters_of, defBody s_letters_of, defScope s_letters_of, [], []⟩
def d_depth_of : He.DefD := ⟨("depth_of", none), "depth_of", "depth_of", defArgs s_depth_of, defBody s_depth_of, defScope s_depth_of, [], []⟩
def d_words_of : He.DefD := ⟨("words_of", none), "words_of", "words_of", defArgs s_words_of, defBody s_words_of, defScope s_words_of, [], []⟩
def d_branch_count : He.DefD := ⟨("branch_count", none), "branch_count", "branch_count", defArgs s_branch_count, defBody s_branch_count, defScope s_branch_count, [], []⟩
def d_places_of : He.DefD := ⟨("places_of", none), "places_of", "places_of", defArgs s_places_of, defBody s_places_of, defScope s_places_of, [], []⟩
def d_decision_node : He.DefD := ⟨("decision_node", none), "decision_node", "decision_node", defArgs s_decision_node, defBody s_decision_node, defScope s_decision_node, [], []⟩
def d_branches_of : He.DefD := ⟨("branches_of", none), "branches_of", "branches_of", defArgs s_branches_of, defBody s_branches_of, defScope s_branches_of, [], []⟩
def d_direction_at : He.DefD := ⟨("direction_at", none), "direction_at", "direction_at", defArgs s_direction_at, defBody s_direction_at, defScope s_direction_at, [], []⟩
def d_line_for : He.DefD := ⟨("line_for", none), "line_for", "line_for", defArgs s_line_for, defBody s_line_for, defScope s_line_for, [], []⟩
def d_line_of : He.DefD := ⟨("line_of", none), "line_of", "line_of", defArgs s_line_of, defBody s_line_of, defScope s_line_of, [], []⟩
def d__law_store : He.DefD := ⟨("_law_store", none), "_law_store", "_law_store", defArgs s__law_store, defBody s__law_store, defScope s__law_store, [], []⟩
def d__law_refill : He.DefD := ⟨("_law_refill", none), "_law_refill", "_law_refill", defArgs s__law_refill, defBody s__law_refill, defScope s__law_refill, [], []⟩
def d__law_mix : He.DefD := ⟨("_law_mix", none), "_law_mix", "_law_mix", defArgs s__law_mix, defBody s__law_mix, defScope s__law_mix, [], []⟩
def d__law_take : He.DefD := ⟨("_law_take", none), "_law_take", "_law_take", defArgs s__law_take, defBody s__law_take, defScope s__law_take, [], []⟩
def d__law_pick : He.DefD := ⟨("_law_pick", none), "_law_pick", "_law_pick", defArgs s__law_pick, defBody s__law_pick, defScope s__law_pick, [], []⟩
def d__law_same : He.DefD := ⟨("_law_same", none), "_law_same", "_law_same", defArgs s__law_same, defBody s__law_same, defScope s__law_same, [], []⟩
def d__law_name : He.DefD := ⟨("_law_name", none), "_law_name", "_law_name", defArgs s__law_name, defBody s__law_name, defScope s__law_name, [], []⟩
def d__law_unlike_name : He.DefD := ⟨("_law_unlike_name", none), "_law_unlike_name", "_law_unlike_name", defArgs s__law_unlike_name, defBody s__law_unlike_name, defScope s__law_unlike_name, [], []⟩
def d__law_pool_names : He.DefD := ⟨("_law_pool_names", none), "_law_pool_names", "_law_pool_names", defArgs s__law_pool_names, defBody s__law_pool_names, defScope s__law_pool_names, [], []⟩
def d__law_split_words : He.DefD := ⟨("_law_split_words", none), "_law_split_words", "_law_split_words", defArgs s__law_split_words, defBody s__law_split_words, defScope s__law_split_words, [], []⟩
def d__law_odd_word : He.DefD := ⟨("_law_odd_word", none), "_law_odd_word", "_law_odd_word", defArgs s__law_odd_word, defBody s__law_odd_word, defScope s__law_odd_word, [], []⟩
def d__law_branch_words : He.DefD := ⟨("_law_branch_words", none), "_law_branch_words", "_law_branch_words", defArgs s__law_branch_words, defBody s__law_branch_words, defScope s__law_branch_words, [], []⟩
def d__law_some_kind : He.DefD := ⟨("_law_some_kind", none), "_law_some_kind", "_law_some_kind", defArgs s__law_some_kind, defBody s__law_some_kind, defScope s__law_some_kind, [], []⟩
def d__law_any_kind : He.DefD := ⟨("_law_any_kind", none), "_law_any_kind", "_law_any_kind", defArgs s__law_any_kind, defBody s__law_any_kind, defScope s__law_any_kind, [], []⟩
def d__law_inner : He.DefD := ⟨("_law_inner", none), "_law_inner", "_law_inner", defArgs s__law_inner, defBody s__law_inner, defScope s__law_inner, [], []⟩
def d__law_walk : He.DefD := ⟨("_law_walk", none), "_law_walk", "_law_walk", defArgs s__law_walk, defBody s__law_walk, defScope s__law_walk, [], []⟩
def d__law_with : He.DefD := ⟨("_law_with", none), "_law_with", "_law_with", defArgs s__law_with, defBody s__law_with, defScope s__law_with, [], []⟩
def d__law_put : He.DefD := ⟨("_law_put", none), "_law_put", "_law_put", defArgs s__law_put, defBody s__law_put, defScope s__law_put, [], []⟩
def d__law_line : He.DefD := ⟨("_law_line", none), "_law_line", "_law_line", defArgs s__law_line, defBody s__law_line, defScope s__law_line, [], []⟩
def d__law_lists : He.DefD := ⟨("_law_lists", none), "_law_lists", "_law_lists", defArgs s__law_lists, defBody s__law_lists, defScope s__law_lists, [], []⟩
def d__law_spliced : He.DefD := ⟨("_law_spliced", none), "_law_spliced", "_law_spliced", defArgs s__law_spliced, defBody s__law_spliced, defScope s__law_spliced, [], []⟩
def d__law_shows : He.DefD := ⟨("_law_shows", none), "_law_shows", "_law_shows", defArgs s__law_shows, defBody s__law_shows, defScope s__law_shows, [], []⟩
def d__law_nodes_hold : He.DefD := ⟨("_law_nodes_hold", none), "_law_nodes_hold", "_law_nodes_hold", defArgs s__law_nodes_hold, defBody s__law_nodes_hold, defScope s__law_nodes_hold, [], []⟩
def d__law_refused : He.DefD := ⟨("_law_refused", none), "_law_refused", "_law_refused", defArgs s__law_refused, defBody s__law_refused, defScope s__law_refused, [], []⟩
def d_law : He.DefD := ⟨("law", none), "law", "law", defArgs s_law, defBody s_law, defScope s_law, [], []⟩
def d_BadKind_init : He.DefD := ⟨("BadKind", some "__init__"), "__init__", "BadKind.__init__", defArgs s_BadKind_init, defBody s_BadKind_init, defScope s_BadKind_init, [], []⟩
def d_BadPath_init : He.DefD := ⟨("BadPath", some "__init__"), "__init__", "BadPath.__init__", defArgs s_BadPath_init, defBody s_BadPath_init, defScope s_BadPath_init, [], []⟩
def d_TooMany_init : He.DefD := ⟨("TooMany", some "__init__"), "__init__", "TooMany.__init__", defArgs s_TooMany_init, defBody s_TooMany_init, defScope s_TooMany_init, [], []⟩
def fn : List He.DefD := ([d_good_name, d_good_word, d_tuple_within, d_good_entries, d_good_node, d_inner_kinds, d_own_words, d_kind_sizes, d_check_kind, d_other_direction, d_node_rows, d_nodes, d_node_or_none, d_node_at, d_with_inner, d_put_at, d_letters_of, d_depth_of, d_words_of, d_branch_count, d_places_of, d_decision_node, d_branches_of, d_direction_at, d_line_for, d_line_of, d__law_store, d__law_refill, d__law_mix, d__law_take] : List He.DefD) ++ ([d__law_pick, d__law_same, d__law_name, d__law_unlike_name, d__law_pool_names, d__law_split_words, d__law_odd_word, d__law_branch_words, d__law_some_kind, d__law_any_kind, d__law_inner, d__law_walk, d__law_with, d__law_put, d__law_line, d__law_lists, d__law_spliced, d__law_shows, d__law_nodes_hold, d__law_refused, d_law, d_BadKind_init, d_BadPath_init, d_TooMany_init] : List He.DefD)
def exK (K : PySem.W.Frag) : Bool := Ds.excAllB K "BadKind" (He.ga K "BadKind") && (Ds.excAllB K "BadPath" (He.ga K "BadPath") && (Ds.excAllB K "TooMany" (He.ga K "TooMany") && (decide (PySem.W.kitOne K (.ref (He.ga K "BadKind")) (.ref (He.ga K "BadKind")) = some true) && (decide (PySem.W.kitOne K (.ref (He.ga K "BadKind")) (.ref (He.ga K "BadPath")) = some false) && (decide (PySem.W.kitOne K (.ref (He.ga K "BadKind")) (.ref (He.ga K "KeysinlineError")) = some true) && (decide (PySem.W.kitOne K (.ref (He.ga K "BadPath")) (.ref (He.ga K "BadKind")) = some false) && (decide (PySem.W.kitOne K (.ref (He.ga K "BadPath")) (.ref (He.ga K "BadPath")) = some true) && (decide (PySem.W.kitOne K (.ref (He.ga K "BadPath")) (.ref (He.ga K "KeysinlineError")) = some true) && (decide (PySem.W.kitOne K (.ref (He.ga K "TooMany")) (.ref (He.ga K "BadKind")) = some false) && (decide (PySem.W.kitOne K (.ref (He.ga K "TooMany")) (.ref (He.ga K "BadPath")) = some false) && (decide (PySem.W.kitOne K (.ref (He.ga K "TooMany")) (.ref (He.ga K "KeysinlineError")) = some true) && (true))))))))))))
def fa : List He.Fa := ([.glo "good_name", .glo "good_word", .glo "tuple_within", .glo "good_entries", .glo "good_node", .glo "inner_kinds", .glo "own_words", .glo "kind_sizes", .glo "check_kind", .glo "other_direction", .glo "node_rows", .glo "nodes", .glo "node_or_none", .glo "node_at", .glo "with_inner", .glo "put_at", .glo "letters_of", .glo "depth_of", .glo "words_of", .glo "branch_count", .glo "places_of", .glo "decision_node", .glo "branches_of", .glo "direction_at", .glo "line_for", .glo "line_of", .glo "_law_store", .glo "_law_refill", .glo "_law_mix", .glo "_law_take"] : List He.Fa) ++ ([.glo "_law_pick", .glo "_law_same", .glo "_law_name", .glo "_law_unlike_name", .glo "_law_pool_names", .glo "_law_split_words", .glo "_law_odd_word", .glo "_law_branch_words", .glo "_law_some_kind", .glo "_law_any_kind", .glo "_law_inner", .glo "_law_walk", .glo "_law_with", .glo "_law_put", .glo "_law_line", .glo "_law_lists", .glo "_law_spliced", .glo "_law_shows", .glo "_law_nodes_hold", .glo "_law_refused", .glo "law", .free "ValueError", .free "abs", .free "all", .free "bool", .free "dict", .free "int", .free "isinstance", .free "len", .free "list"] : List He.Fa) ++ ([.free "max", .free "min", .free "range", .free "set", .free "sorted", .free "str", .free "tuple", .str "LETTERS" "abcdefgh", .int "MOST_NODES" 24, .int "MOST_LETTERS" 60, .int "MOST_LISTS" 3, .str "NAME_STARTS" "abcdefghijklmnopqrstuvwxyz", .str "NAME_SIGNS" "abcdefghijklmnopqrstuvwxyz0123456789", .glo "KeysinlineError", .glo "BadKind", .glo "BadPath", .glo "TooMany", .meth "BadKind" "__init__", .noat "BadKind" "path", .meth "BadPath" "__init__", .noat "BadPath" "path", .meth "TooMany" "__init__", .noat "TooMany" "what", .noat "TooMany" "most", .exm "BadKind" "BadKind" true, .exm "BadKind" "BadPath" false, .exm "BadKind" "KeysinlineError" true, .exm "BadPath" "BadKind" false, .exm "BadPath" "BadPath" true, .exm "BadPath" "KeysinlineError" true] : List He.Fa) ++ ([.exm "TooMany" "BadKind" false, .exm "TooMany" "BadPath" false, .exm "TooMany" "KeysinlineError" true] : List He.Fa)
abbrev R : PySem.W.OpenRow := PySem.W.OpenLaw.row PySem.Challenge.rw_keysinline_k53_parts_exchanged_in_kinds
def names : List PySem.Str := (["KeysinlineError", "BadKind", "BadPath", "TooMany", "LETTERS", "MOST_NODES", "MOST_LETTERS", "MOST_LISTS", "NAME_STARTS", "NAME_SIGNS", "good_name", "good_word", "tuple_within", "good_entries", "good_node", "inner_kinds", "own_words", "kind_sizes", "check_kind", "other_direction", "node_rows", "nodes", "node_or_none", "node_at", "with_inner", "put_at", "letters_of", "depth_of", "words_of", "branch_count"] : List PySem.Str) ++ (["places_of", "decision_node", "branches_of", "direction_at", "line_for", "line_of", "_law_store", "_law_refill", "_law_mix", "_law_take", "_law_pick", "_law_same", "_law_name", "_law_unlike_name", "_law_pool_names", "_law_split_words", "_law_odd_word", "_law_branch_words", "_law_some_kind", "_law_any_kind", "_law_inner", "_law_walk", "_law_with", "_law_put", "_law_line", "_law_lists", "_law_spliced", "_law_shows", "_law_nodes_hold", "_law_refused"] : List PySem.Str)
abbrev hk : PySem.W.Hook := He.hookX 5 fa fn [] [] exK
def ob (s : PySem.W.SharedT) : He.AlX := He.obsX 5 fa fn [] [] exK (HandSHeadRun.getT s)
theorem ob_eq (s : PySem.W.SharedT) : ob s = hk.obs s.abs := He.obsX_eq (HandSHeadRun.getT_eq s)
theorem run (w : World) : HandSHeadRun.RunEq R (PySem.W.view R.prog [63]) hk ob 6000 names w := by
  intro os
  kernel_rfl
end KH
set_option Elab.async false
set_option linter.all false
set_option maxRecDepth 100000
set_option maxHeartbeats 1000000
set_option autoImplicit false
namespace KG
open PySem PySem.Spec PyProof.Rows L2 Ds KH
theorem room_units {k : Nat} {A : Around} (r : Room k A) : A.units + 200 < cLine := by have := r.un; omega
theorem tk0 {X : Cx} : Takes X W0 := fun u s ⟨_, _, _, _, _, _, _, _, _, _, _, _, _, _, _, _, z⟩ => z.elim
def isC_BadKind (nm : Str) : Option Bool := if nm = "BadKind" then some true else if nm = "BadPath" then some false else if nm = "TooMany" then some false else none
def isC_BadPath (nm : Str) : Option Bool := if nm = "BadKind" then some false else if nm = "BadPath" then some true else if nm = "TooMany" then some false else none
def isC_KeysinlineError (nm : Str) : Option Bool := if nm = "BadKind" then some true else if nm = "BadPath" then some true else if nm = "TooMany" then some true else none
def okF_most (nm : Str) : Bool := if nm = "TooMany" then true else false
def okF_path (nm : Str) : Bool := if nm = "BadKind" then true else if nm = "BadPath" then true else false
def okF_what (nm : Str) : Bool := if nm = "TooMany" then true else false
structure Top (P : Program) (w : World) (K : PySem.W.Frag) (mg : Str → Option Value) (base : Heap) : Prop where
  b_ValueError : mg "ValueError" = none
  b_abs : mg "abs" = none
  b_all : mg "all" = none
  b_bool : mg "bool" = none
  b_dict : mg "dict" = none
  b_int : mg "int" = none
  b_isinstance : mg "isinstance" = none
  b_len : mg "len" = none
  b_list : mg "list" = none
  b_max : mg "max" = none
  b_min : mg "min" = none
  b_range : mg "range" = none
  b_set : mg "set" = none
  b_sorted : mg "sorted" = none
  b_str : mg "str" = none
  b_tuple : mg "tuple" = none
  c_LETTERS : ∃ t, mg "LETTERS" = some (.str "abcdefgh" t)
  c_MOST_NODES : ∃ t, mg "MOST_NODES" = some (.int 24 t)
  c_MOST_LETTERS : ∃ t, mg "MOST_LETTERS" = some (.int 60 t)
  c_MOST_LISTS : ∃ t, mg "MOST_LISTS" = some (.int 3 t)
  c_NAME_STARTS : ∃ t, mg "NAME_STARTS" = some (.str "abcdefghijklmnopqrstuvwxyz" t)
  c_NAME_SIGNS : ∃ t, mg "NAME_SIGNS" = some (.str "abcdefghijklmnopqrstuvwxyz0123456789" t)
  f_good_name : ∃ f fd, mg "good_name" = some (.ref f) ∧ FunD K "good_name" "good_name" (defArgs s_good_name) (defBody s_good_name) (defScope s_good_name) [] [] f fd
  f_good_word : ∃ f fd, mg "good_word" = some (.ref f) ∧ FunD K "good_word" "good_word" (defArgs s_good_word) (defBody s_good_word) (defScope s_good_word) [] [] f fd
  f_tuple_within : ∃ f fd, mg "tuple_within" = some (.ref f) ∧ FunD K "tuple_within" "tuple_within" (defArgs s_tuple_within) (defBody s_tuple_within) (defScope s_tuple_within) [] [] f fd
  f_good_entries : ∃ f fd, mg "good_entries" = some (.ref f) ∧ FunD K "good_entries" "good_entries" (defArgs s_good_entries) (defBody s_good_entries) (defScope s_good_entries) [] [] f fd
  f_good_node : ∃ f fd, mg "good_node" = some (.ref f) ∧ FunD K "good_node" "good_node" (defArgs s_good_node) (defBody s_good_node) (defScope s_good_node) [] [] f fd
  f_inner_kinds : ∃ f fd, mg "inner_kinds" = some (.ref f) ∧ FunD K "inner_kinds" "inner_kinds" (defArgs s_inner_kinds) (defBody s_inner_kinds) (defScope s_inner_kinds) [] [] f fd
  f_own_words : ∃ f fd, mg "own_words" = some (.ref f) ∧ FunD K "own_words" "own_words" (defArgs s_own_words) (defBody s_own_words) (defScope s_own_words) [] [] f fd
  f_kind_sizes : ∃ f fd, mg "kind_sizes" = some (.ref f) ∧ FunD K "kind_sizes" "kind_sizes" (defArgs s_kind_sizes) (defBody s_kind_sizes) (defScope s_kind_sizes) [] [] f fd
  f_check_kind : ∃ f fd, mg "check_kind" = some (.ref f) ∧ FunD K "check_kind" "check_kind" (defArgs s_check_kind) (defBody s_check_kind) (defScope s_check_kind) [] [("uses", .bl false)] f fd
  f_other_direction : ∃ f fd, mg "other_direction" = some (.ref f) ∧ FunD K "other_direction" "other_direction" (defArgs s_other_direction) (defBody s_other_direction) (defScope s_other_direction) [] [] f fd
  f_node_rows : ∃ f fd, mg "node_rows" = some (.ref f) ∧ FunD K "node_rows" "node_rows" (defArgs s_node_rows) (defBody s_node_rows) (defScope s_node_rows) [] [] f fd
  f_nodes : ∃ f fd, mg "nodes" = some (.ref f) ∧ FunD K "nodes" "nodes" (defArgs s_nodes) (defBody s_nodes) (defScope s_nodes) [] [] f fd
  f_node_or_none : ∃ f fd, mg "node_or_none" = some (.ref f) ∧ FunD K "node_or_none" "node_or_none" (defArgs s_node_or_none) (defBody s_node_or_none) (defScope s_node_or_none) [] [] f fd
  f_node_at : ∃ f fd, mg "node_at" = some (.ref f) ∧ FunD K "node_at" "node_at" (defArgs s_node_at) (defBody s_node_at) (defScope s_node_at) [] [] f fd
  f_with_inner : ∃ f fd, mg "with_inner" = some (.ref f) ∧ FunD K "with_inner" "with_inner" (defArgs s_with_inner) (defBody s_with_inner) (defScope s_with_inner) [] [] f fd
  f_put_at : ∃ f fd, mg "put_at" = some (.ref f) ∧ FunD K "put_at" "put_at" (defArgs s_put_at) (defBody s_put_at) (defScope s_put_at) [] [] f fd
  f_letters_of : ∃ f fd, mg "letters_of" = some (.ref f) ∧ FunD K "letters_of" "letters_of" (defArgs s_letters_of) (defBody s_letters_of) (defScope s_letters_of) [] [] f fd
  f_depth_of : ∃ f fd, mg "depth_of" = some (.ref f) ∧ FunD K "depth_of" "depth_of" (defArgs s_depth_of) (defBody s_depth_of) (defScope s_depth_of) [] [] f fd
  f_words_of : ∃ f fd, mg "words_of" = some (.ref f) ∧ FunD K "words_of" "words_of" (defArgs s_words_of) (defBody s_words_of) (defScope s_words_of) [] [] f fd
  f_branch_count : ∃ f fd, mg "branch_count" = some (.ref f) ∧ FunD K "branch_count" "branch_count" (defArgs s_branch_count) (defBody s_branch_count) (defScope s_branch_count) [] [] f fd
  f_places_of : ∃ f fd, mg "places_of" = some (.ref f) ∧ FunD K "places_of" "places_of" (defArgs s_places_of) (defBody s_places_of) (defScope s_places_of) [] [] f fd
  f_decision_node : ∃ f fd, mg "decision_node" = some (.ref f) ∧ FunD K "decision_node" "decision_node" (defArgs s_decision_node) (defBody s_decision_node) (defScope s_decision_node) [] [] f fd
  f_branches_of : ∃ f fd, mg "branches_of" = some (.ref f) ∧ FunD K "branches_of" "branches_of" (defArgs s_branches_of) (defBody s_branches_of) (defScope s_branches_of) [] [] f fd
  f_direction_at : ∃ f fd, mg "direction_at" = some (.ref f) ∧ FunD K "direction_at" "direction_at" (defArgs s_direction_at) (defBody s_direction_at) (defScope s_direction_at) [] [] f fd
  f_line_for : ∃ f fd, mg "line_for" = some (.ref f) ∧ FunD K "line_for" "line_for" (defArgs s_line_for) (defBody s_line_for) (defScope s_line_for) [] [] f fd
  f_line_of : ∃ f fd, mg "line_of" = some (.ref f) ∧ FunD K "line_of" "line_of" (defArgs s_line_of) (defBody s_line_of) (defScope s_line_of) [] [] f fd
  f__law_store : ∃ f fd, mg "_law_store" = some (.ref f) ∧ FunD K "_law_store" "_law_store" (defArgs s__law_store) (defBody s__law_store) (defScope s__law_store) [] [] f fd
  f__law_refill : ∃ f fd, mg "_law_refill" = some (.ref f) ∧ FunD K "_law_refill" "_law_refill" (defArgs s__law_refill) (defBody s__law_refill) (defScope s__law_refill) [] [] f fd
  f__law_mix : ∃ f fd, mg "_law_mix" = some (.ref f) ∧ FunD K "_law_mix" "_law_mix" (defArgs s__law_mix) (defBody s__law_mix) (defScope s__law_mix) [] [] f fd
  f__law_take : ∃ f fd, mg "_law_take" = some (.ref f) ∧ FunD K "_law_take" "_law_take" (defArgs s__law_take) (defBody s__law_take) (defScope s__law_take) [] [] f fd
  f__law_pick : ∃ f fd, mg "_law_pick" = some (.ref f) ∧ FunD K "_law_pick" "_law_pick" (defArgs s__law_pick) (defBody s__law_pick) (defScope s__law_pick) [] [] f fd
  f__law_same : ∃ f fd, mg "_law_same" = some (.ref f) ∧ FunD K "_law_same" "_law_same" (defArgs s__law_same) (defBody s__law_same) (defScope s__law_same) [] [] f fd
  f__law_name : ∃ f fd, mg "_law_name" = some (.ref f) ∧ FunD K "_law_name" "_law_name" (defArgs s__law_name) (defBody s__law_name) (defScope s__law_name) [] [] f fd
  f__law_unlike_name : ∃ f fd, mg "_law_unlike_name" = some (.ref f) ∧ FunD K "_law_unlike_name" "_law_unlike_name" (defArgs s__law_unlike_name) (defBody s__law_unlike_name) (defScope s__law_unlike_name) [] [] f fd
  f__law_pool_names : ∃ f fd, mg "_law_pool_names" = some (.ref f) ∧ FunD K "_law_pool_names" "_law_pool_names" (defArgs s__law_pool_names) (defBody s__law_pool_names) (defScope s__law_pool_names) [] [] f fd
  f__law_split_words : ∃ f fd, mg "_law_split_words" = some (.ref f) ∧ FunD K "_law_split_words" "_law_split_words" (defArgs s__law_split_words) (defBody s__law_split_words) (defScope s__law_split_words) [] [] f fd
  f__law_odd_word : ∃ f fd, mg "_law_odd_word" = some (.ref f) ∧ FunD K "_law_odd_word" "_law_odd_word" (defArgs s__law_odd_word) (defBody s__law_odd_word) (defScope s__law_odd_word) [] [] f fd
  f__law_branch_words : ∃ f fd, mg "_law_branch_words" = some (.ref f) ∧ FunD K "_law_branch_words" "_law_branch_words" (defArgs s__law_branch_words) (defBody s__law_branch_words) (defScope s__law_branch_words) [] [] f fd
  f__law_some_kind : ∃ f fd, mg "_law_some_kind" = some (.ref f) ∧ FunD K "_law_some_kind" "_law_some_kind" (defArgs s__law_some_kind) (defBody s__law_some_kind) (defScope s__law_some_kind) [] [] f fd
  f__law_any_kind : ∃ f fd, mg "_law_any_kind" = some (.ref f) ∧ FunD K "_law_any_kind" "_law_any_kind" (defArgs s__law_any_kind) (defBody s__law_any_kind) (defScope s__law_any_kind) [] [] f fd
  f__law_inner : ∃ f fd, mg "_law_inner" = some (.ref f) ∧ FunD K "_law_inner" "_law_inner" (defArgs s__law_inner) (defBody s__law_inner) (defScope s__law_inner) [] [] f fd
  f__law_walk : ∃ f fd, mg "_law_walk" = some (.ref f) ∧ FunD K "_law_walk" "_law_walk" (defArgs s__law_walk) (defBody s__law_walk) (defScope s__law_walk) [] [] f fd
  f__law_with : ∃ f fd, mg "_law_with" = some (.ref f) ∧ FunD K "_law_with" "_law_with" (defArgs s__law_with) (defBody s__law_with) (defScope s__law_with) [] [] f fd
  f__law_put : ∃ f fd, mg "_law_put" = some (.ref f) ∧ FunD K "_law_put" "_law_put" (defArgs s__law_put) (defBody s__law_put) (defScope s__law_put) [] [] f fd
  f__law_line : ∃ f fd, mg "_law_line" = some (.ref f) ∧ FunD K "_law_line" "_law_line" (defArgs s__law_line) (defBody s__law_line) (defScope s__law_line) [] [] f fd
  f__law_lists : ∃ f fd, mg "_law_lists" = some (.ref f) ∧ FunD K "_law_lists" "_law_lists" (defArgs s__law_lists) (defBody s__law_lists) (defScope s__law_lists) [] [] f fd
  f__law_spliced : ∃ f fd, mg "_law_spliced" = some (.ref f) ∧ FunD K "_law_spliced" "_law_spliced" (defArgs s__law_spliced) (defBody s__law_spliced) (defScope s__law_spliced) [] [] f fd
  f__law_shows : ∃ f fd, mg "_law_shows" = some (.ref f) ∧ FunD K "_law_shows" "_law_shows" (defArgs s__law_shows) (defBody s__law_shows) (defScope s__law_shows) [] [] f fd
  f__law_nodes_hold : ∃ f fd, mg "_law_nodes_hold" = some (.ref f) ∧ FunD K "_law_nodes_hold" "_law_nodes_hold" (defArgs s__law_nodes_hold) (defBody s__law_nodes_hold) (defScope s__law_nodes_hold) [] [] f fd
  f__law_refused : ∃ f fd, mg "_law_refused" = some (.ref f) ∧ FunD K "_law_refused" "_law_refused" (defArgs s__law_refused) (defBody s__law_refused) (defScope s__law_refused) [] [] f fd
  f_law : ∃ f fd, mg "law" = some (.ref f) ∧ FunD K "law" "law" (defArgs s_law) (defBody s_law) (defScope s_law) [] [] f fd
  x_BadKind : ExcOk P w K mg base "BadKind" ["path"]
  x_BadPath : ExcOk P w K mg base "BadPath" ["path"]
  x_TooMany : ExcOk P w K mg base "TooMany" ["what", "most"]
  is_BadKind : ∃ CY, mg "BadKind" = some (.ref CY) ∧ SubOk K mg (.ref CY) isC_BadKind ∧ ∀ nm b cls, isC_BadKind nm = some b → mg nm = some cls → ∃ C, cls = .ref C ∧ ExcC K C ∧ PySem.W.kitOne K (.ref C) (.ref CY) = some b
  is_BadPath : ∃ CY, mg "BadPath" = some (.ref CY) ∧ SubOk K mg (.ref CY) isC_BadPath ∧ ∀ nm b cls, isC_BadPath nm = some b → mg nm = some cls → ∃ C, cls = .ref C ∧ ExcC K C ∧ PySem.W.kitOne K (.ref C) (.ref CY) = some b
  is_KeysinlineError : ∃ CY, mg "KeysinlineError" = some (.ref CY) ∧ SubOk K mg (.ref CY) isC_KeysinlineError ∧ ∀ nm b cls, isC_KeysinlineError nm = some b → mg nm = some cls → ∃ C, cls = .ref C ∧ ExcC K C ∧ PySem.W.kitOne K (.ref C) (.ref CY) = some b
  okF_most : ∀ nm cls, okF_most nm = true → mg nm = some cls → ∃ C, cls = .ref C ∧ XfC K C ∧ PySem.W.findIn K (.ref C) "most" = some none
  okF_path : ∀ nm cls, okF_path nm = true → mg nm = some cls → ∃ C, cls = .ref C ∧ XfC K C ∧ PySem.W.findIn K (.ref C) "path" = some none
  okF_what : ∀ nm cls, okF_what nm = true → mg nm = some cls → ∃ C, cls = .ref C ∧ XfC K C ∧ PySem.W.findIn K (.ref C) "what" = some none
section
variable {P : Program} {w : World} {K : PySem.W.Frag} {mg : Str → Option Value} {base : Heap}
def N_good_name : List Str := ["name", "sign"]
noncomputable def B_good_name : SS := (qSeq (qIf (bOr (bNot (sTst (s1 (isiR "str") (sVar 0)))) (bNot (c3 (ordD true true) (ordD true true) (sC (.int 1)) (s1 lenD (sV (sVar 0))) (sV (sC (.int 8)))))) (qRet (sC (.bl false))) qNil) (qRet (vAnd (sB (c2 (inB id) (sIx (sVar 0) (sC (.int 0))) (sV (sC (.str "abcdefghijklmnopqrstuvwxyz"))))) (s1 allD (sV (sF (sLc (sIt (sVar 0)) (.nm 1) bYes (sB (c2 (inB id) (sVar 1) (sV (sC (.str "abcdefghijklmnopqrstuvwxyz0123456789"))))) [1])))))))
noncomputable def F_good_name : SemF := defF 1 2 B_good_name
theorem b_good_name {f : Addr} {cdv : Value} {A : Around} {outer : List Env} {s : Shared} {H : Hp} {E : XK} (T : Top P w K mg base) (hr : Room 0 (A.deeper (envOfC "good_name" (defScope s_good_name) s.heap.objs.size f cdv))) : DSs (bodyX P w K mg base N_good_name "good_name" (defScope s_good_name) f cdv A outer s H E) (bodyW E) (defBody s_good_name) B_good_name := by
  have nd : N_good_name.Nodup := by decide
  have hu := room_units hr
  have tk := body_takes (P := P) (w := w) (K := K) (mg := mg) (base := base) (N := N_good_name) (x := "good_name") (sc := defScope s_good_name) (f := f) (cdv := cdv) (A := A) (outer := outer) (s := s) (H := H) (E := E)
  have hp := body_passes (P := P) (w := w) (K := K) (mg := mg) (base := base) (N := N_good_name) (x := "good_name") (sc := defScope s_good_name) (f := f) (cdv := cdv) (A := A) (outer := outer) (s := s) (H := H) (E := E)
  unfold B_good_name
  exact (dss_cons (ds_if (DW.dt (dw_or (dt_not (dt_val (de_isi rfl T.b_isinstance rfl T.b_str (by kernel_rfl) (du_of de_var)))) (dw_or1 (dt_not (dt_chain (op_leP hu) (op_leP hu) ordD_ok ordD_ok (du_of de_int) (de_len rfl T.b_len (dv_of de_var)) (dv_of de_int)))))) (dss_one (ds_ret de_bl)) dss_nil) (dss_one (ds_ret (de_and (de_cmp (op_inP hu) inB_ok (du_of (de_ix (du_of de_var) de_int)) (dv_of (de_gstr rfl T.c_NAME_STARTS)) (by rfl)) (de_one (de_all rfl rfl T.b_all (dv_of (de_do (do_lc (own := [("sign", 1)]) rfl nd (DI.dj (di_of de_var)) (by first | rfl | kernel_rfl) (fun _ _ _ _ _ => (dg_nm nd rfl (by first | exact Or.inl rfl | exact Or.inr rfl))) (fun _ _ _ _ _ => dts_nil) (fun _ _ _ _ _ => (de_cmp (op_inP hu) inB_ok (du_of de_var) (dv_of (de_gstr rfl T.c_NAME_SIGNS)) (by rfl))))))))))))
theorem sc_good_name : C8.scC N_good_name ["name"] (defScope s_good_name) = true := by kernel_rfl
theorem fd_good_name (T : Top P w K mg base) : FdOk P w K mg base 1 "good_name" ["name"] [] F_good_name := by
  obtain ⟨f, fd, hm, D⟩ := T.f_good_name
  exact fd_ok D sc_good_name hm (fun _ _ _ _ _ _ us hl => match us, hl with | [_], _ => rfl) fun cdv A outer s H E hr => b_good_name T hr
def N_good_word : List Str := ["word", "letter"]
noncomputable def B_good_word : SS := (qSeq (qIf (bOr (bNot (sTst (s1 (isiR "str") (sVar 0)))) (c2 (ordD false true) (s1 lenD (sV (sVar 0))) (sV (sC (.int 8))))) (qRet (sC (.bl false))) qNil) (qRet (s1 allD (sV (sF (sLc (sIt (sVar 0)) (.nm 1) bYes (sB (c2 (inB id) (sVar 1) (sV (sC (.str "abcdefgh"))))) [1]))))))
noncomputable def F_good_word : SemF := defF 1 2 B_good_word
theorem b_good_word {f : Addr} {cdv : Value} {A : Around} {outer : List Env} {s : Shared} {H : Hp} {E : XK} (T : Top P w K mg base) (hr : Room 0 (A.deeper (envOfC "good_word" (defScope s_good_word) s.heap.objs.size f cdv))) : DSs (bodyX P w K mg base N_good_word "good_word" (defScope s_good_word) f cdv A outer s H E) (bodyW E) (defBody s_good_word) B_good_word := by
  have nd : N_good_word.Nodup := by decide
  have hu := room_units hr
  have tk := body_takes (P := P) (w := w) (K := K) (mg := mg) (base := base) (N := N_good_word) (x := "good_word") (sc := defScope s_good_word) (f := f) (cdv := cdv) (A := A) (outer := outer) (s := s) (H := H) (E := E)
  have hp := body_passes (P := P) (w := w) (K := K) (mg := mg) (base := base) (N := N_good_word) (x := "good_word") (sc := defScope s_good_word) (f := f) (cdv := cdv) (A := A) (outer := outer) (s := s) (H := H) (E := E)
  unfold B_good_word
  exact (dss_cons (ds_if (DW.dt (dw_or (dt_not (dt_val (de_isi rfl T.b_isinstance rfl T.b_str (by kernel_rfl) (du_of de_var)))) (dw_or1 (dt_cmp (op_gtP hu) ordD_ok (du_of (de_len rfl T.b_len (dv_of de_var))) (dv_of de_int) (by rfl))))) (dss_one (ds_ret de_bl)) dss_nil) (dss_one (ds_ret (de_all rfl rfl T.b_all (dv_of (de_do (do_lc (own := [("letter", 1)]) rfl nd (DI.dj (di_of de_var)) (by first | rfl | kernel_rfl) (fun _ _ _ _ _ => (dg_nm nd rfl (by first | exact Or.inl rfl | exact Or.inr rfl))) (fun _ _ _ _ _ => dts_nil) (fun _ _ _ _ _ => (de_cmp (op_inP hu) inB_ok (du_of de_var) (dv_of (de_gstr rfl T.c_LETTERS)) (by rfl))))))))))
theorem sc_good_word : C8.scC N_good_word ["word"] (defScope s_good_word) = true := by kernel_rfl
theorem fd_good_word (T : Top P w K mg base) : FdOk P w K mg base 1 "good_word" ["word"] [] F_good_word := by
  obtain ⟨f, fd, hm, D⟩ := T.f_good_word
  exact fd_ok D sc_good_word hm (fun _ _ _ _ _ _ us hl => match us, hl with | [_], _ => rfl) fun cdv A outer s H E hr => b_good_word T hr
def N_tuple_within : List Str := ["thing", "least", "most"]
noncomputable def B_tuple_within : SS := (qRet (vAnd (s1 (isiR "tuple") (sVar 0)) (sB (c3 (ordD true true) (ordD true true) (sVar 1) (s1 lenD (sV (sVar 0))) (sV (sVar 2))))))
noncomputable def F_tuple_within : SemF := defF 3 3 B_tuple_within
theorem b_tuple_within {f : Addr} {cdv : Value} {A : Around} {outer : List Env} {s : Shared} {H : Hp} {E : XK} (T : Top P w K mg base) (hr : Room 0 (A.deeper (envOfC "tuple_within" (defScope s_tuple_within) s.heap.objs.size f cdv))) : DSs (bodyX P w K mg base N_tuple_within "tuple_within" (defScope s_tuple_within) f cdv A outer s H E) (bodyW E) (defBody s_tuple_within) B_tuple_within := by
  have nd : N_tuple_within.Nodup := by decide
  have hu := room_units hr
  have tk := body_takes (P := P) (w := w) (K := K) (mg := mg) (base := base) (N := N_tuple_within) (x := "tuple_within") (sc := defScope s_tuple_within) (f := f) (cdv := cdv) (A := A) (outer := outer) (s := s) (H := H) (E := E)
  have hp := body_passes (P := P) (w := w) (K := K) (mg := mg) (base := base) (N := N_tuple_within) (x := "tuple_within") (sc := defScope s_tuple_within) (f := f) (cdv := cdv) (A := A) (outer := outer) (s := s) (H := H) (E := E)
  unfold B_tuple_within
  exact (dss_one (ds_ret (de_and (de_isi rfl T.b_isinstance rfl T.b_tuple (by kernel_rfl) (du_of de_var)) (de_one (de_chain (op_leP hu) (op_leP hu) ordD_ok ordD_ok (du_of de_var) (de_len rfl T.b_len (dv_of de_var)) (dv_of de_var))))))
theorem sc_tuple_within : C8.scC N_tuple_within ["thing", "least", "most"] (defScope s_tuple_within) = true := by kernel_rfl
theorem fd_tuple_within (T : Top P w K mg base) : FdOk P w K mg base 1 "tuple_within" ["thing", "least", "most"] [] F_tuple_within := by
  obtain ⟨f, fd, hm, D⟩ := T.f_tuple_within
  exact fd_ok D sc_tuple_within hm (fun _ _ _ _ _ _ us hl => match us, hl with | [_, _, _], _ => rfl) fun cdv A outer s H E hr => b_tuple_within T hr
def N_good_entries : List Str := ["entries", "most", "width", "entry", "names"]
noncomputable def B_good_entries : SS := (qSeq (qIf (bNot (sTst (sCall F_tuple_within [] (sCons (sVar 0) (sCons (sC (.int 1)) (sCons (sVar 1) sNil)))))) (qRet (sC (.bl false))) qNil) (qSeq (qFor (sIt (sVar 0)) (.nm 3) (qSeq (qIf (bNot (sTst (sCall F_tuple_within [] (sCons (sVar 3) (sCons (sVar 2) (sCons (sVar 2) sNil)))))) (qRet (sC (.bl false))) qNil) (qIf (bOr (bNot (sTst (sCall F_good_name [] (sCons (sIx (sVar 3) (sC (.int 0))) sNil)))) (bNot (sTst (sCall F_good_word [] (sCons (sIx (sVar 3) (sC (.int 1))) sNil))))) (qRet (sC (.bl false))) qNil))) (qSeq (qSet 4 (sF (sLc (sIt (sVar 0)) (.nm 3) bYes (sIx (sVar 3) (sC (.int 0))) [3]))) (qRet (sB (c2 eqD (s1 lenSetD (sV (sVar 4))) (sV (s1 lenD (sV (sVar 4))))))))))
noncomputable def F_good_entries : SemF := defF 3 5 B_good_entries
theorem b_good_entries {f : Addr} {cdv : Value} {A : Around} {outer : List Env} {s : Shared} {H : Hp} {E : XK} (T : Top P w K mg base) (hr : Room 1 (A.deeper (envOfC "good_entries" (defScope s_good_entries) s.heap.objs.size f cdv))) : DSs (bodyX P w K mg base N_good_entries "good_entries" (defScope s_good_entries) f cdv A outer s H E) (bodyW E) (defBody s_good_entries) B_good_entries := by
  have nd : N_good_entries.Nodup := by decide
  have hu := room_units hr
  have tk := body_takes (P := P) (w := w) (K := K) (mg := mg) (base := base) (N := N_good_entries) (x := "good_entries") (sc := defScope s_good_entries) (f := f) (cdv := cdv) (A := A) (outer := outer) (s := s) (H := H) (E := E)
  have hp := body_passes (P := P) (w := w) (K := K) (mg := mg) (base := base) (N := N_good_entries) (x := "good_entries") (sc := defScope s_good_entries) (f := f) (cdv := cdv) (A := A) (outer := outer) (s := s) (H := H) (E := E)
  unfold B_good_entries
  exact (dss_cons (ds_if (dt_not (dt_val (de_call (fd_tuple_within T) (hr.mono (by decide)) tk rfl (da_cons de_var (da_cons de_int (da_cons de_var da_nil)))))) (dss_one (ds_ret de_bl)) dss_nil) (dss_cons (ds_for hp rfl (di_of de_var) (dg_nm nd rfl (by first | exact Or.inl rfl | exact Or.inr rfl)) (dss_cons (ds_if (dt_not (dt_val (de_call (fd_tuple_within T) (hr.mono (by decide)) tk rfl (da_cons de_var (da_cons de_var (da_cons de_var da_nil)))))) (dss_one (ds_ret de_bl)) dss_nil) (dss_one (ds_if (DW.dt (dw_or (dt_not (dt_val (de_call (fd_good_name T) (hr.mono (by decide)) tk rfl (da_cons (de_ix (du_of de_var) de_int) da_nil)))) (dw_or1 (dt_not (dt_val (de_call (fd_good_word T) (hr.mono (by decide)) tk rfl (da_cons (de_ix (du_of de_var) de_int) da_nil))))))) (dss_one (ds_ret de_bl)) dss_nil)))) (dss_cons (ds_setLc (own := [("entry", 3)]) rfl nd rfl rfl (sw_true rfl rfl rfl rfl) (DI.dj (di_of de_var)) (by first | rfl | kernel_rfl) (fun _ _ _ _ _ => (dg_nm nd rfl (by first | exact Or.inl rfl | exact Or.inr rfl))) (fun _ _ _ _ _ => dts_nil) (fun _ _ _ _ _ => (de_ix (du_of de_var) de_int))) (dss_one (ds_ret (de_cmp (op_eqP hu) eqD_ok (du_of (de_lenSet rfl rfl T.b_len rfl T.b_set (dv_of de_var))) (dv_of (de_len rfl T.b_len (dv_of de_var))) (by rfl)))))))
theorem sc_good_entries : C8.scC N_good_entries ["entries", "most", "width"] (defScope s_good_entries) = true := by kernel_rfl
theorem fd_good_entries (T : Top P w K mg base) : FdOk P w K mg base 2 "good_entries" ["entries", "most", "width"] [] F_good_entries := by
  obtain ⟨f, fd, hm, D⟩ := T.f_good_entries
  exact fd_ok D sc_good_entries hm (fun _ _ _ _ _ _ us hl => match us, hl with | [_, _, _], _ => rfl) fun cdv A outer s H E hr => b_good_entries T hr
def N_good_node : List Str := ["node", "uses", "sort"]
noncomputable def B_good_node : SS := (qSeq (qIf (bNot (sTst (sCall F_tuple_within [] (sCons (sVar 0) (sCons (sC (.int 2)) (sCons (sC (.int 5)) sNil)))))) (qRet (sC (.bl false))) qNil) (qSeq (qSet 2 (sIx (sVar 0) (sC (.int 0)))) (qSeq (qIf (c2 eqD (sVar 2) (sV (sC (.str "list")))) (qSeq (qIf (bOr (c2 neD (s1 lenD (sV (sVar 0))) (sV (sC (.int 5)))) (bOr (bNot (sTst (sCall F_good_word [] (sCons (sIx (sVar 0) (sC (.int 1))) sNil)))) (bNot (sTst (sCall F_good_word [] (sCons (sIx (sVar 0) (sC (.int 2))) sNil)))))) (qRet (sC (.bl false))) qNil) (qRet (vOr (sB (c2 eqD (sIx (sVar 0) (sC (.int 3))) (sV (sC (.str "first"))))) (sB (c2 eqD (sIx (sVar 0) (sC (.int 3))) (sV (sC (.str "last")))))))) qNil) (qSeq (qIf (c2 neD (s1 lenD (sV (sVar 0))) (sV (sC (.int 2)))) (qRet (sC (.bl false))) qNil) (qSeq (qIf (c2 eqD (sVar 2) (sV (sC (.str "table")))) (qRet (sCall F_good_entries [] (sCons (sIx (sVar 0) (sC (.int 1))) (sCons (sC (.int 10)) (sCons (sC (.int 2)) sNil))))) qNil) (qSeq (qIf (c2 eqD (sVar 2) (sV (sC (.str "choice")))) (qRet (sCall F_good_entries [] (sCons (sIx (sVar 0) (sC (.int 1))) (sCons (sC (.int 6)) (sCons (sC (.int 3)) sNil))))) qNil) (qSeq (qIf (c2 eqD (sVar 2) (sV (sC (.str "row")))) (qRet (sCall F_tuple_within [] (sCons (sIx (sVar 0) (sC (.int 1))) (sCons (sC (.int 0)) (sCons (sC (.int 6)) sNil))))) qNil) (qSeq (qIf (c2 eqD (sVar 2) (sV (sC (.str "use")))) (qRet (sIf (sTst (sVar 1)) (sCall F_good_name [] (sCons (sIx (sVar 0) (sC (.int 1))) sNil)) (sC (.bl false)))) qNil) (qRet (sB (c2 eqD (sVar 2) (sV (sC (.str "turned"))))))))))))))
noncomputable def F_good_node : SemF := defF 2 3 B_good_node
theorem b_good_node {f : Addr} {cdv : Value} {A : Around} {outer : List Env} {s : Shared} {H : Hp} {E : XK} (T : Top P w K mg base) (hr : Room 2 (A.deeper (envOfC "good_node" (defScope s_good_node) s.heap.objs.size f cdv))) : DSs (bodyX P w K mg base N_good_node "good_node" (defScope s_good_node) f cdv A outer s H E) (bodyW E) (defBody s_good_node) B_good_node := by
  have nd : N_good_node.Nodup := by decide
  have hu := room_units hr
  have tk := body_takes (P := P) (w := w) (K := K) (mg := mg) (base := base) (N := N_good_node) (x := "good_node") (sc := defScope s_good_node) (f := f) (cdv := cdv) (A := A) (outer := outer) (s := s) (H := H) (E := E)
  have hp := body_passes (P := P) (w := w) (K := K) (mg := mg) (base := base) (N := N_good_node) (x := "good_node") (sc := defScope s_good_node) (f := f) (cdv := cdv) (A := A) (outer := outer) (s := s) (H := H) (E := E)
  unfold B_good_node
  exact (dss_cons (ds_if (dt_not (dt_val (de_call (fd_tuple_within T) (hr.mono (by decide)) tk rfl (da_cons de_var (da_cons de_int (da_cons de_int da_nil)))))) (dss_one (ds_ret de_bl)) dss_nil) (dss_cons (ds_set nd rfl (by first | exact Or.inl rfl | exact Or.inr rfl) (de_ix (du_of de_var) de_int)) (dss_cons (ds_if (dt_cmp (op_eqP hu) eqD_ok (du_of de_var) (dv_of de_str) (by rfl)) (dss_cons (ds_if (DW.dt (dw_or (dt_cmp (op_neP hu) neD_ok (du_of (de_len rfl T.b_len (dv_of de_var))) (dv_of de_int) (by rfl)) (dw_or (dt_not (dt_val (de_call (fd_good_word T) (hr.mono (by decide)) tk rfl (da_cons (de_ix (du_of de_var) de_int) da_nil)))) (dw_or1 (dt_not (dt_val (de_call (fd_good_word T) (hr.mono (by decide)) tk rfl (da_cons (de_ix (du_of de_var) de_int) da_nil)))))))) (dss_one (ds_ret de_bl)) dss_nil) (dss_one (ds_ret (de_or (de_cmp (op_eqP hu) eqD_ok (du_of (de_ix (du_of de_var) de_int)) (dv_of de_str) (by rfl)) (de_one (de_cmp (op_eqP hu) eqD_ok (du_of (de_ix (du_of de_var) de_int)) (dv_of de_str) (by rfl))))))) dss_nil) (dss_cons (ds_if (dt_cmp (op_neP hu) neD_ok (du_of (de_len rfl T.b_len (dv_of de_var))) (dv_of de_int) (by rfl)) (dss_one (ds_ret de_bl)) dss_nil) (dss_cons (ds_if (dt_cmp (op_eqP hu) eqD_ok (du_of de_var) (dv_of de_str) (by rfl)) (dss_one (ds_ret (de_call (fd_good_entries T) (hr.mono (by decide)) tk rfl (da_cons (de_ix (du_of de_var) de_int) (da_cons de_int (da_cons de_int da_nil)))))) dss_nil) (dss_cons (ds_if (dt_cmp (op_eqP hu) eqD_ok (du_of de_var) (dv_of de_str) (by rfl)) (dss_one (ds_ret (de_call (fd_good_entries T) (hr.mono (by decide)) tk rfl (da_cons (de_ix (du_of de_var) de_int) (da_cons de_int (da_cons de_int da_nil)))))) dss_nil) (dss_cons (ds_if (dt_cmp (op_eqP hu) eqD_ok (du_of de_var) (dv_of de_str) (by rfl)) (dss_one (ds_ret (de_call (fd_tuple_within T) (hr.mono (by decide)) tk rfl (da_cons (de_ix (du_of de_var) de_int) (da_cons de_int (da_cons de_int da_nil)))))) dss_nil) (dss_cons (ds_if (dt_cmp (op_eqP hu) eqD_ok (du_of de_var) (dv_of de_str) (by rfl)) (dss_one (ds_ret (de_if (dt_val de_var) (de_call (fd_good_name T) (hr.mono (by decide)) tk rfl (da_cons (de_ix (du_of de_var) de_int) da_nil)) de_bl))) dss_nil) (dss_one (ds_ret (de_cmp (op_eqP hu) eqD_ok (du_of de_var) (dv_of de_str) (by rfl))))))))))))
theorem sc_good_node : C8.scC N_good_node ["node", "uses"] (defScope s_good_node) = true := by kernel_rfl
theorem fd_good_node (T : Top P w K mg base) : FdOk P w K mg base 3 "good_node" ["node", "uses"] [] F_good_node := by
  obtain ⟨f, fd, hm, D⟩ := T.f_good_node
  exact fd_ok D sc_good_node hm (fun _ _ _ _ _ _ us hl => match us, hl with | [_, _], _ => rfl) fun cdv A outer s H E hr => b_good_node T hr
def N_inner_kinds : List Str := ["node", "sort", "entry"]
noncomputable def B_inner_kinds : SS := (qSeq (qSet 1 (sIx (sVar 0) (sC (.int 0)))) (qSeq (qIf (c2 eqD (sVar 1) (sV (sC (.str "row")))) (qRet (sIx (sVar 0) (sC (.int 1)))) qNil) (qSeq (qIf (c2 eqD (sVar 1) (sV (sC (.str "choice")))) (qRet (s1 tupOfD (sV (sF (sLc (sIt (sIx (sVar 0) (sC (.int 1)))) (.nm 2) bYes (sIx (sVar 2) (sC (.int 2))) [2]))))) qNil) (qSeq (qIf (c2 eqD (sVar 1) (sV (sC (.str "list")))) (qRet (sTup (sCons (sIx (sVar 0) (sC (.int 4))) sNil))) qNil) (qSeq (qIf (c2 eqD (sVar 1) (sV (sC (.str "turned")))) (qRet (sTup (sCons (sIx (sVar 0) (sC (.int 1))) sNil))) qNil) (qRet (sTup sNil)))))))
noncomputable def F_inner_kinds : SemF := defF 1 3 B_inner_kinds
theorem b_inner_kinds {f : Addr} {cdv : Value} {A : Around} {outer : List Env} {s : Shared} {H : Hp} {E : XK} (T : Top P w K mg base) (hr : Room 0 (A.deeper (envOfC "inner_kinds" (defScope s_inner_kinds) s.heap.objs.size f cdv))) : DSs (bodyX P w K mg base N_inner_kinds "inner_kinds" (defScope s_inner_kinds) f cdv A outer s H E) (bodyW E) (defBody s_inner_kinds) B_inner_kinds := by
  have nd : N_inner_kinds.Nodup := by decide
  have hu := room_units hr
  have tk := body_takes (P := P) (w := w) (K := K) (mg := mg) (base := base) (N := N_inner_kinds) (x := "inner_kinds") (sc := defScope s_inner_kinds) (f := f) (cdv := cdv) (A := A) (outer := outer) (s := s) (H := H) (E := E)
  have hp := body_passes (P := P) (w := w) (K := K) (mg := mg) (base := base) (N := N_inner_kinds) (x := "inner_kinds") (sc := defScope s_inner_kinds) (f := f) (cdv := cdv) (A := A) (outer := outer) (s := s) (H := H) (E := E)
  unfold B_inner_kinds
  exact (dss_cons (ds_set nd rfl (by first | exact Or.inl rfl | exact Or.inr rfl) (de_ix (du_of de_var) de_int)) (dss_cons (ds_if (dt_cmp (op_eqP hu) eqD_ok (du_of de_var) (dv_of de_str) (by rfl)) (dss_one (ds_ret (de_ix (du_of de_var) de_int))) dss_nil) (dss_cons (ds_if (dt_cmp (op_eqP hu) eqD_ok (du_of de_var) (dv_of de_str) (by rfl)) (dss_one (ds_ret (de_tupc rfl T.b_tuple (dv_of (de_do (do_lc (own := [("entry", 2)]) rfl nd (DI.dj (di_of (de_ix (du_of de_var) de_int))) (by first | rfl | kernel_rfl) (fun _ _ _ _ _ => (dg_nm nd rfl (by first | exact Or.inl rfl | exact Or.inr rfl))) (fun _ _ _ _ _ => dts_nil) (fun _ _ _ _ _ => (de_ix (du_of de_var) de_int)))))))) dss_nil) (dss_cons (ds_if (dt_cmp (op_eqP hu) eqD_ok (du_of de_var) (dv_of de_str) (by rfl)) (dss_one (ds_ret (de_tup (da_cons (de_ix (du_of de_var) de_int) da_nil)))) dss_nil) (dss_cons (ds_if (dt_cmp (op_eqP hu) eqD_ok (du_of de_var) (dv_of de_str) (by rfl)) (dss_one (ds_ret (de_tup (da_cons (de_ix (du_of de_var) de_int) da_nil)))) dss_nil) (dss_one (ds_ret (de_tup da_nil))))))))
theorem sc_inner_kinds : C8.scC N_inner_kinds ["node"] (defScope s_inner_kinds) = true := by kernel_rfl
theorem fd_inner_kinds (T : Top P w K mg base) : FdOk P w K mg base 1 "inner_kinds" ["node"] [] F_inner_kinds := by
  obtain ⟨f, fd, hm, D⟩ := T.f_inner_kinds
  exact fd_ok D sc_inner_kinds hm (fun _ _ _ _ _ _ us hl => match us, hl with | [_], _ => rfl) fun cdv A outer s H E hr => b_inner_kinds T hr
def N_own_words : List Str := ["node", "sort", "entry"]
noncomputable def B_own_words : SS := (qSeq (qSet 1 (sIx (sVar 0) (sC (.int 0)))) (qSeq (qIf (bOr (c2 eqD (sVar 1) (sV (sC (.str "table")))) (c2 eqD (sVar 1) (sV (sC (.str "choice"))))) (qRetO (sLc (sIt (sIx (sVar 0) (sC (.int 1)))) (.nm 2) bYes (sIx (sVar 2) (sC (.int 1))) [2])) qNil) (qSeq (qIf (c2 eqD (sVar 1) (sV (sC (.str "list")))) (qRetO (sLst (sCons (sIx (sVar 0) (sC (.int 1))) (sCons (sIx (sVar 0) (sC (.int 2))) sNil)))) qNil) (qRetO (sLst sNil)))))
noncomputable def F_own_words : SemF := defF 1 3 B_own_words
theorem b_own_words {f : Addr} {cdv : Value} {A : Around} {outer : List Env} {s : Shared} {H : Hp} {E : XK} (T : Top P w K mg base) (hr : Room 0 (A.deeper (envOfC "own_words" (defScope s_own_words) s.heap.objs.size f cdv))) : DSs (bodyX P w K mg base N_own_words "own_words" (defScope s_own_words) f cdv A outer s H E) (bodyW E) (defBody s_own_words) B_own_words := by
  have nd : N_own_words.Nodup := by decide
  have hu := room_units hr
  have tk := body_takes (P := P) (w := w) (K := K) (mg := mg) (base := base) (N := N_own_words) (x := "own_words") (sc := defScope s_own_words) (f := f) (cdv := cdv) (A := A) (outer := outer) (s := s) (H := H) (E := E)
  have hp := body_passes (P := P) (w := w) (K := K) (mg := mg) (base := base) (N := N_own_words) (x := "own_words") (sc := defScope s_own_words) (f := f) (cdv := cdv) (A := A) (outer := outer) (s := s) (H := H) (E := E)
  unfold B_own_words
  exact (dss_cons (ds_set nd rfl (by first | exact Or.inl rfl | exact Or.inr rfl) (de_ix (du_of de_var) de_int)) (dss_cons (ds_if (DW.dt (dw_or (dt_cmp (op_eqP hu) eqD_ok (du_of de_var) (dv_of de_str) (by rfl)) (dw_or1 (dt_cmp (op_eqP hu) eqD_ok (du_of de_var) (dv_of de_str) (by rfl))))) (dss_one (ds_retO (do_lc (own := [("entry", 2)]) rfl nd (DI.dj (di_of (de_ix (du_of de_var) de_int))) (by first | rfl | kernel_rfl) (fun _ _ _ _ _ => (dg_nm nd rfl (by first | exact Or.inl rfl | exact Or.inr rfl))) (fun _ _ _ _ _ => dts_nil) (fun _ _ _ _ _ => (de_ix (du_of de_var) de_int))))) dss_nil) (dss_cons (ds_if (dt_cmp (op_eqP hu) eqD_ok (du_of de_var) (dv_of de_str) (by rfl)) (dss_one (ds_retO (do_lst (da_cons (de_ix (du_of de_var) de_int) (da_cons (de_ix (du_of de_var) de_int) da_nil))))) dss_nil) (dss_one (ds_retO (do_lst da_nil))))))
theorem sc_own_words : C8.scC N_own_words ["node"] (defScope s_own_words) = true := by kernel_rfl
theorem fd_own_words (T : Top P w K mg base) : FdOk P w K mg base 1 "own_words" ["node"] [] F_own_words := by
  obtain ⟨f, fd, hm, D⟩ := T.f_own_words
  exact fd_ok D sc_own_words hm (fun _ _ _ _ _ _ us hl => match us, hl with | [_], _ => rfl) fun cdv A outer s H E hr => b_own_words T hr
def N_kind_sizes : List Str := ["kind", "uses", "amount", "letters", "deepest", "stack", "path", "lists", "node", "word", "inner", "at"]
noncomputable def B_kind_sizes : SS := (qSeq (qSet 2 (sC (.int 0))) (qSeq (qSet 3 (sC (.int 0))) (qSeq (qSet 4 (sC (.int 0))) (qSeq (qSetO 5 (sLst (sCons (sTup (sCons (sTup sNil) (sCons (sC (.int 0)) (sCons (sVar 0) sNil)))) sNil))) (qSeq (qWhile (fun ρ st => ((sOwn 5) ρ st).bind truD) (qSeq (qPop (.tp [(.nm 6), (.nm 7), (.nm 8)]) 5) (qSeq (qIf (bNot (sTst (sCall F_good_node [] (sCons (sVar 8) (sCons (sVar 1) sNil))))) (qRaise "BadKind" ["path"] (sCons (sVar 6) sNil)) qNil) (qSeq (qSet 2 (s2 addD (sVar 2) (sC (.int 1)))) (qSeq (qFor (sIt (sCall F_own_words [] (sCons (sVar 8) sNil))) (.nm 9) (qSet 3 (s2 addD (sVar 3) (s1 lenD (sV (sVar 9)))))) (qSeq (qIf (c2 eqD (sIx (sVar 8) (sC (.int 0))) (sV (sC (.str "list")))) (qSeq (qSet 7 (s2 addD (sVar 7) (sC (.int 1)))) (qIf (c2 (ordD false true) (sVar 7) (sV (sVar 4))) (qSet 4 (sVar 7)) qNil)) qNil) (qSeq (qSet 10 (sCall F_inner_kinds [] (sCons (sVar 8) sNil))) (qFor (sItA r3D (sCons (s2 subD (s1 lenD (sV (sVar 10))) (sC (.int 1))) (sCons (s1 negD (sC (.int 1))) (sCons (s1 negD (sC (.int 1))) sNil)))) (.nm 11) (qM 5 kApp (sCons (sTup (sCons (s2 addD (sVar 6) (sTup (sCons (sVar 11) sNil))) (sCons (sVar 7) (sCons (sIx (sVar 10) (sVar 11)) sNil)))) sNil)))))))))) (qRet (sTup (sCons (sVar 2) (sCons (sVar 3) (sCons (sVar 4) sNil))))))))))
noncomputable def F_kind_sizes : SemF := defF 2 12 B_kind_sizes
theorem b_kind_sizes {f : Addr} {cdv : Value} {A : Around} {outer : List Env} {s : Shared} {H : Hp} {E : XK} (T : Top P w K mg base) (hr : Room 3 (A.deeper (envOfC "kind_sizes" (defScope s_kind_sizes) s.heap.objs.size f cdv))) : DSs (bodyX P w K mg base N_kind_sizes "kind_sizes" (defScope s_kind_sizes) f cdv A outer s H E) (bodyW E) (defBody s_kind_sizes) B_kind_sizes := by
  have nd : N_kind_sizes.Nodup := by decide
  have hu := room_units hr
  have tk := body_takes (P := P) (w := w) (K := K) (mg := mg) (base := base) (N := N_kind_sizes) (x := "kind_sizes") (sc := defScope s_kind_sizes) (f := f) (cdv := cdv) (A := A) (outer := outer) (s := s) (H := H) (E := E)
  have hp := body_passes (P := P) (w := w) (K := K) (mg := mg) (base := base) (N := N_kind_sizes) (x := "kind_sizes") (sc := defScope s_kind_sizes) (f := f) (cdv := cdv) (A := A) (outer := outer) (s := s) (H := H) (E := E)
  unfold B_kind_sizes
  exact (dss_cons (ds_set nd rfl (by first | exact Or.inl rfl | exact Or.inr rfl) de_int) (dss_cons (ds_set nd rfl (by first | exact Or.inl rfl | exact Or.inr rfl) de_int) (dss_cons (ds_set nd rfl (by first | exact Or.inl rfl | exact Or.inr rfl) de_int) (dss_cons (ds_setO nd rfl (by first | exact Or.inl rfl | exact Or.inr rfl) (do_lst (da_cons (de_tup (da_cons (de_tup da_nil) (da_cons de_int (da_cons de_var da_nil)))) da_nil))) (dss_cons (ds_while hp (dt_tru dv_own) (dss_cons (ds_pop (dg_tp rfl (dgs_cons (dg_nm nd rfl (by first | exact Or.inl rfl | exact Or.inr rfl)) (dgs_cons (dg_nm nd rfl (by first | exact Or.inl rfl | exact Or.inr rfl)) (dgs_cons (dg_nm nd rfl (by first | exact Or.inl rfl | exact Or.inr rfl)) dgs_nil))))) (dss_cons (ds_if (dt_not (dt_val (de_call (fd_good_node T) (hr.mono (by decide)) tk rfl (da_cons de_var (da_cons de_var da_nil))))) (dss_one (ds_raise T.x_BadKind rfl tk (hr.mono (by decide)) rfl (da_cons de_var da_nil))) dss_nil) (dss_cons (ds_set nd rfl (by first | exact Or.inl rfl | exact Or.inr rfl) (de_add de_var de_int)) (dss_cons (ds_for hp rfl (di_of (de_call (fd_own_words T) (hr.mono (by decide)) tk rfl (da_cons de_var da_nil))) (dg_nm nd rfl (by first | exact Or.inl rfl | exact Or.inr rfl)) (dss_one (ds_set nd rfl (by first | exact Or.inl rfl | exact Or.inr rfl) (de_add de_var (de_len rfl T.b_len (dv_of de_var)))))) (dss_cons (ds_if (dt_cmp (op_eqP hu) eqD_ok (du_of (de_ix (du_of de_var) de_int)) (dv_of de_str) (by rfl)) (dss_cons (ds_set nd rfl (by first | exact Or.inl rfl | exact Or.inr rfl) (de_add de_var de_int)) (dss_one (ds_if (dt_cmp (op_gtP hu) ordD_ok (du_of de_var) (dv_of de_var) (by rfl)) (dss_one (ds_set nd rfl (by first | exact Or.inl rfl | exact Or.inr rfl) de_var)) dss_nil))) dss_nil) (dss_cons (ds_set nd rfl (by first | exact Or.inl rfl | exact Or.inr rfl) (de_call (fd_inner_kinds T) (hr.mono (by decide)) tk rfl (da_cons de_var da_nil))) (dss_one (ds_for hp rfl (di_r3 rfl T.b_range (da_cons (de_sub (de_len rfl T.b_len (dv_of de_var)) de_int) (da_cons (de_neg de_int) (da_cons (de_neg de_int) da_nil)))) (dg_nm nd rfl (by first | exact Or.inl rfl | exact Or.inr rfl)) (dss_one (ds_m F.slot_list_append F.type_list_append mt_append md_app (da_cons (de_tup (da_cons (de_add de_var (de_tup (da_cons de_var da_nil))) (da_cons de_var (da_cons (de_ix (du_of de_var) de_var) da_nil)))) da_nil)))))))))))) (dss_one (ds_ret (de_tup (da_cons de_var (da_cons de_var (da_cons de_var da_nil)))))))))))
theorem sc_kind_sizes : C8.scC N_kind_sizes ["kind", "uses"] (defScope s_kind_sizes) = true := by kernel_rfl
theorem fd_kind_sizes (T : Top P w K mg base) : FdOk P w K mg base 4 "kind_sizes" ["kind", "uses"] [] F_kind_sizes := by
  obtain ⟨f, fd, hm, D⟩ := T.f_kind_sizes
  exact fd_ok D sc_kind_sizes hm (fun _ _ _ _ _ _ us hl => match us, hl with | [_, _], _ => rfl) fun cdv A outer s H E hr => b_kind_sizes T hr
def N_check_kind : List Str := ["kind", "uses", "amount", "letters", "deepest"]
noncomputable def B_check_kind : SS := (qSeq (qAsg (.tp [(.nm 2), (.nm 3), (.nm 4)]) (sCall F_kind_sizes [] (sCons (sVar 0) (sCons (sVar 1) sNil)))) (qSeq (qIf (c2 (ordD false true) (sVar 2) (sV (sC (.int 24)))) (qRaise "TooMany" ["what", "most"] (sCons (sC (.str "nodes")) (sCons (sC (.int 24)) sNil))) qNil) (qSeq (qIf (c2 (ordD false true) (sVar 3) (sV (sC (.int 60)))) (qRaise "TooMany" ["what", "most"] (sCons (sC (.str "letters")) (sCons (sC (.int 60)) sNil))) qNil) (qIf (c2 (ordD false true) (sVar 4) (sV (sC (.int 3)))) (qRaise "TooMany" ["what", "most"] (sCons (sC (.str "lists")) (sCons (sC (.int 3)) sNil))) qNil))))
noncomputable def F_check_kind : SemF := defF 2 5 B_check_kind
theorem b_check_kind {f : Addr} {cdv : Value} {A : Around} {outer : List Env} {s : Shared} {H : Hp} {E : XK} (T : Top P w K mg base) (hr : Room 4 (A.deeper (envOfC "check_kind" (defScope s_check_kind) s.heap.objs.size f cdv))) : DSs (bodyX P w K mg base N_check_kind "check_kind" (defScope s_check_kind) f cdv A outer s H E) (bodyW E) (defBody s_check_kind) B_check_kind := by
  have nd : N_check_kind.Nodup := by decide
  have hu := room_units hr
  have tk := body_takes (P := P) (w := w) (K := K) (mg := mg) (base := base) (N := N_check_kind) (x := "check_kind") (sc := defScope s_check_kind) (f := f) (cdv := cdv) (A := A) (outer := outer) (s := s) (H := H) (E := E)
  have hp := body_passes (P := P) (w := w) (K := K) (mg := mg) (base := base) (N := N_check_kind) (x := "check_kind") (sc := defScope s_check_kind) (f := f) (cdv := cdv) (A := A) (outer := outer) (s := s) (H := H) (E := E)
  unfold B_check_kind
  exact (dss_cons (ds_asg (de_call (fd_kind_sizes T) (hr.mono (by decide)) tk rfl (da_cons de_var (da_cons de_var da_nil))) (dg_tp rfl (dgs_cons (dg_nm nd rfl (by first | exact Or.inl rfl | exact Or.inr rfl)) (dgs_cons (dg_nm nd rfl (by first | exact Or.inl rfl | exact Or.inr rfl)) (dgs_cons (dg_nm nd rfl (by first | exact Or.inl rfl | exact Or.inr rfl)) dgs_nil))))) (dss_cons (ds_if (dt_cmp (op_gtP hu) ordD_ok (du_of de_var) (dv_of (de_gint rfl T.c_MOST_NODES)) (by rfl)) (dss_one (ds_raise T.x_TooMany rfl tk (hr.mono (by decide)) rfl (da_cons de_str (da_cons (de_gint rfl T.c_MOST_NODES) da_nil)))) dss_nil) (dss_cons (ds_if (dt_cmp (op_gtP hu) ordD_ok (du_of de_var) (dv_of (de_gint rfl T.c_MOST_LETTERS)) (by rfl)) (dss_one (ds_raise T.x_TooMany rfl tk (hr.mono (by decide)) rfl (da_cons de_str (da_cons (de_gint rfl T.c_MOST_LETTERS) da_nil)))) dss_nil) (dss_one (ds_if (dt_cmp (op_gtP hu) ordD_ok (du_of de_var) (dv_of (de_gint rfl T.c_MOST_LISTS)) (by rfl)) (dss_one (ds_raise T.x_TooMany rfl tk (hr.mono (by decide)) rfl (da_cons de_str (da_cons (de_gint rfl T.c_MOST_LISTS) da_nil)))) dss_nil)))))
theorem sc_check_kind : C8.scC N_check_kind ["kind", "uses"] (defScope s_check_kind) = true := by kernel_rfl
theorem fd_check_kind (T : Top P w K mg base) : FdOk P w K mg base 5 "check_kind" ["kind", "uses"] [.bl false] F_check_kind := by
  obtain ⟨f, fd, hm, D⟩ := T.f_check_kind
  obtain ⟨ds, hv, hb⟩ := D.binds0 (ps := ["kind", "uses"]) 1 (by decide) rfl (fun D doc pm an cdv ct us ks hl hk => match us, hl, ks, hk with | [_], _, [_], _ => ⟨_, _, _, _, _, _, rfl, rfl, rfl⟩)
  exact ⟨⟨f, fd, _, ds, hm, D.kp, fn_ok D sc_check_kind fun cdv A outer s H E hr => b_check_kind T hr, hb, hv, fun _ => .cons rep_bl (.nil)⟩, fun ds st h => defF_ar ds st h⟩
def N_other_direction : List Str := ["direction"]
noncomputable def B_other_direction : SS := (qRet (sIf (c2 eqD (sVar 0) (sV (sC (.str "up")))) (sC (.str "down")) (sC (.str "up"))))
noncomputable def F_other_direction : SemF := defF 1 1 B_other_direction
theorem b_other_direction {f : Addr} {cdv : Value} {A : Around} {outer : List Env} {s : Shared} {H : Hp} {E : XK} (T : Top P w K mg base) (hr : Room 0 (A.deeper (envOfC "other_direction" (defScope s_other_direction) s.heap.objs.size f cdv))) : DSs (bodyX P w K mg base N_other_direction "other_direction" (defScope s_other_direction) f cdv A outer s H E) (bodyW E) (defBody s_other_direction) B_other_direction := by
  have nd : N_other_direction.Nodup := by decide
  have hu := room_units hr
  have tk := body_takes (P := P) (w := w) (K := K) (mg := mg) (base := base) (N := N_other_direction) (x := "other_direction") (sc := defScope s_other_direction) (f := f) (cdv := cdv) (A := A) (outer := outer) (s := s) (H := H) (E := E)
  have hp := body_passes (P := P) (w := w) (K := K) (mg := mg) (base := base) (N := N_other_direction) (x := "other_direction") (sc := defScope s_other_direction) (f := f) (cdv := cdv) (A := A) (outer := outer) (s := s) (H := H) (E := E)
  unfold B_other_direction
  exact (dss_one (ds_ret (de_if (dt_cmp (op_eqP hu) eqD_ok (du_of de_var) (dv_of de_str) (by rfl)) de_str de_str)))
theorem sc_other_direction : C8.scC N_other_direction ["direction"] (defScope s_other_direction) = true := by kernel_rfl
theorem fd_other_direction (T : Top P w K mg base) : FdOk P w K mg base 1 "other_direction" ["direction"] [] F_other_direction := by
  obtain ⟨f, fd, hm, D⟩ := T.f_other_direction
  exact fd_ok D sc_other_direction hm (fun _ _ _ _ _ _ us hl => match us, hl with | [_], _ => rfl) fun cdv A outer s H E hr => b_other_direction T hr
def N_node_rows : List Str := ["kind", "found", "stack", "path", "node", "direction", "below", "inner", "at"]
noncomputable def B_node_rows : SS := (qSeq (qSetO 1 (sLst sNil)) (qSeq (qSetO 2 (sLst (sCons (sTup (sCons (sTup sNil) (sCons (sVar 0) (sCons (sC (.str "up")) sNil)))) sNil))) (qSeq (qWhile (fun ρ st => ((sOwn 2) ρ st).bind truD) (qSeq (qPop (.tp [(.nm 3), (.nm 4), (.nm 5)]) 2) (qSeq (qM 1 kApp (sCons (sTup (sCons (sVar 3) (sCons (sVar 4) (sCons (sVar 5) sNil)))) sNil)) (qSeq (qSet 6 (sIf (c2 eqD (sIx (sVar 4) (sC (.int 0))) (sV (sC (.str "turned")))) (sCall F_other_direction [] (sCons (sVar 5) sNil)) (sVar 5))) (qSeq (qSet 7 (sCall F_inner_kinds [] (sCons (sVar 4) sNil))) (qFor (sItA r3D (sCons (s2 subD (s1 lenD (sV (sVar 7))) (sC (.int 1))) (sCons (s1 negD (sC (.int 1))) (sCons (s1 negD (sC (.int 1))) sNil)))) (.nm 8) (qM 2 kApp (sCons (sTup (sCons (s2 addD (sVar 3) (sTup (sCons (sVar 8) sNil))) (sCons (sIx (sVar 7) (sVar 8)) (sCons (sVar 6) sNil)))) sNil)))))))) (qRetV 1))))
noncomputable def F_node_rows : SemF := defF 1 9 B_node_rows
theorem b_node_rows {f : Addr} {cdv : Value} {A : Around} {outer : List Env} {s : Shared} {H : Hp} {E : XK} (T : Top P w K mg base) (hr : Room 1 (A.deeper (envOfC "node_rows" (defScope s_node_rows) s.heap.objs.size f cdv))) : DSs (bodyX P w K mg base N_node_rows "node_rows" (defScope s_node_rows) f cdv A outer s H E) (bodyW E) (defBody s_node_rows) B_node_rows := by
  have nd : N_node_rows.Nodup := by decide
  have hu := room_units hr
  have tk := body_takes (P := P) (w := w) (K := K) (mg := mg) (base := base) (N := N_node_rows) (x := "node_rows") (sc := defScope s_node_rows) (f := f) (cdv := cdv) (A := A) (outer := outer) (s := s) (H := H) (E := E)
  have hp := body_passes (P := P) (w := w) (K := K) (mg := mg) (base := base) (N := N_node_rows) (x := "node_rows") (sc := defScope s_node_rows) (f := f) (cdv := cdv) (A := A) (outer := outer) (s := s) (H := H) (E := E)
  unfold B_node_rows
  exact (dss_cons (ds_setO nd rfl (by first | exact Or.inl rfl | exact Or.inr rfl) (do_lst da_nil)) (dss_cons (ds_setO nd rfl (by first | exact Or.inl rfl | exact Or.inr rfl) (do_lst (da_cons (de_tup (da_cons (de_tup da_nil) (da_cons de_var (da_cons de_str da_nil)))) da_nil))) (dss_cons (ds_while hp (dt_tru dv_own) (dss_cons (ds_pop (dg_tp rfl (dgs_cons (dg_nm nd rfl (by first | exact Or.inl rfl | exact Or.inr rfl)) (dgs_cons (dg_nm nd rfl (by first | exact Or.inl rfl | exact Or.inr rfl)) (dgs_cons (dg_nm nd rfl (by first | exact Or.inl rfl | exact Or.inr rfl)) dgs_nil))))) (dss_cons (ds_m F.slot_list_append F.type_list_append mt_append md_app (da_cons (de_tup (da_cons de_var (da_cons de_var (da_cons de_var da_nil)))) da_nil)) (dss_cons (ds_set nd rfl (by first | exact Or.inl rfl | exact Or.inr rfl) (de_if (dt_cmp (op_eqP hu) eqD_ok (du_of (de_ix (du_of de_var) de_int)) (dv_of de_str) (by rfl)) (de_call (fd_other_direction T) (hr.mono (by decide)) tk rfl (da_cons de_var da_nil)) de_var)) (dss_cons (ds_set nd rfl (by first | exact Or.inl rfl | exact Or.inr rfl) (de_call (fd_inner_kinds T) (hr.mono (by decide)) tk rfl (da_cons de_var da_nil))) (dss_one (ds_for hp rfl (di_r3 rfl T.b_range (da_cons (de_sub (de_len rfl T.b_len (dv_of de_var)) de_int) (da_cons (de_neg de_int) (da_cons (de_neg de_int) da_nil)))) (dg_nm nd rfl (by first | exact Or.inl rfl | exact Or.inr rfl)) (dss_one (ds_m F.slot_list_append F.type_list_append mt_append md_app (da_cons (de_tup (da_cons (de_add de_var (de_tup (da_cons de_var da_nil))) (da_cons (de_ix (du_of de_var) de_var) (da_cons de_var da_nil)))) da_nil)))))))))) (dss_one ds_retV))))
theorem sc_node_rows : C8.scC N_node_rows ["kind"] (defScope s_node_rows) = true := by kernel_rfl
theorem fd_node_rows (T : Top P w K mg base) : FdOk P w K mg base 2 "node_rows" ["kind"] [] F_node_rows := by
  obtain ⟨f, fd, hm, D⟩ := T.f_node_rows
  exact fd_ok D sc_node_rows hm (fun _ _ _ _ _ _ us hl => match us, hl with | [_], _ => rfl) fun cdv A outer s H E hr => b_node_rows T hr
def N_nodes : List Str := ["kind", "path", "node", "direction"]
noncomputable def B_nodes : SS := (qSeq (qDrop (sCall F_check_kind [.bl false] (sCons (sVar 0) sNil))) (qRet (s1 tupOfD (sV (sF (sLc (sIt (sCall F_node_rows [] (sCons (sVar 0) sNil))) (.tp [(.nm 1), (.nm 2), (.nm 3)]) bYes (sTup (sCons (sVar 1) (sCons (sIx (sVar 2) (sC (.int 0))) (sCons (sVar 3) sNil)))) [1, 2, 3]))))))
noncomputable def F_nodes : SemF := defF 1 4 B_nodes
theorem b_nodes {f : Addr} {cdv : Value} {A : Around} {outer : List Env} {s : Shared} {H : Hp} {E : XK} (T : Top P w K mg base) (hr : Room 5 (A.deeper (envOfC "nodes" (defScope s_nodes) s.heap.objs.size f cdv))) : DSs (bodyX P w K mg base N_nodes "nodes" (defScope s_nodes) f cdv A outer s H E) (bodyW E) (defBody s_nodes) B_nodes := by
  have nd : N_nodes.Nodup := by decide
  have hu := room_units hr
  have tk := body_takes (P := P) (w := w) (K := K) (mg := mg) (base := base) (N := N_nodes) (x := "nodes") (sc := defScope s_nodes) (f := f) (cdv := cdv) (A := A) (outer := outer) (s := s) (H := H) (E := E)
  have hp := body_passes (P := P) (w := w) (K := K) (mg := mg) (base := base) (N := N_nodes) (x := "nodes") (sc := defScope s_nodes) (f := f) (cdv := cdv) (A := A) (outer := outer) (s := s) (H := H) (E := E)
  unfold B_nodes
  exact (dss_cons (ds_expr (de_call (fd_check_kind T) (hr.mono (by decide)) tk rfl (da_cons de_var da_nil))) (dss_one (ds_ret (de_tupc rfl T.b_tuple (dv_of (de_do (do_lc (own := [("path", 1), ("node", 2), ("direction", 3)]) rfl nd (DI.dj (di_of (de_call (fd_node_rows T) (hr.mono (by decide)) tk rfl (da_cons de_var da_nil)))) (by first | rfl | kernel_rfl) (fun _ _ _ _ _ => (dg_tp rfl (dgs_cons (dg_nm nd rfl (by first | exact Or.inl rfl | exact Or.inr rfl)) (dgs_cons (dg_nm nd rfl (by first | exact Or.inl rfl | exact Or.inr rfl)) (dgs_cons (dg_nm nd rfl (by first | exact Or.inl rfl | exact Or.inr rfl)) dgs_nil))))) (fun _ _ _ _ _ => dts_nil) (fun _ _ _ _ _ => (de_tup (da_cons de_var (da_cons (de_ix (du_of de_var) de_int) (da_cons de_var da_nil))))))))))))
theorem sc_nodes : C8.scC N_nodes ["kind"] (defScope s_nodes) = true := by kernel_rfl
theorem fd_nodes (T : Top P w K mg base) : FdOk P w K mg base 6 "nodes" ["kind"] [] F_nodes := by
  obtain ⟨f, fd, hm, D⟩ := T.f_nodes
  exact fd_ok D sc_nodes hm (fun _ _ _ _ _ _ us hl => match us, hl with | [_], _ => rfl) fun cdv A outer s H E hr => b_nodes T hr
def N_node_or_none : List Str := ["kind", "path", "node", "at", "inner"]
noncomputable def B_node_or_none : SS := (qSeq (qIf (bNot (sTst (s1 (isiR "tuple") (sVar 1)))) (qRet (sC .non)) qNil) (qSeq (qSet 2 (sVar 0)) (qSeq (qFor (sIt (sVar 1)) (.nm 3) (qSeq (qSet 4 (sCall F_inner_kinds [] (sCons (sVar 2) sNil))) (qSeq (qIf (bOr (sTst (s1 (isiR "bool") (sVar 3))) (bOr (bNot (sTst (s1 (isiR "int") (sVar 3)))) (bNot (c3 (ordD true true) (ordD false false) (sC (.int 0)) (sVar 3) (sV (s1 lenD (sV (sVar 4)))))))) (qRet (sC .non)) qNil) (qSet 2 (sIx (sVar 4) (sVar 3)))))) (qRet (sVar 2)))))
noncomputable def F_node_or_none : SemF := defF 2 5 B_node_or_none
theorem b_node_or_none {f : Addr} {cdv : Value} {A : Around} {outer : List Env} {s : Shared} {H : Hp} {E : XK} (T : Top P w K mg base) (hr : Room 1 (A.deeper (envOfC "node_or_none" (defScope s_node_or_none) s.heap.objs.size f cdv))) : DSs (bodyX P w K mg base N_node_or_none "node_or_none" (defScope s_node_or_none) f cdv A outer s H E) (bodyW E) (defBody s_node_or_none) B_node_or_none := by
  have nd : N_node_or_none.Nodup := by decide
  have hu := room_units hr
  have tk := body_takes (P := P) (w := w) (K := K) (mg := mg) (base := base) (N := N_node_or_none) (x := "node_or_none") (sc := defScope s_node_or_none) (f := f) (cdv := cdv) (A := A) (outer := outer) (s := s) (H := H) (E := E)
  have hp := body_passes (P := P) (w := w) (K := K) (mg := mg) (base := base) (N := N_node_or_none) (x := "node_or_none") (sc := defScope s_node_or_none) (f := f) (cdv := cdv) (A := A) (outer := outer) (s := s) (H := H) (E := E)
  unfold B_node_or_none
  exact (dss_cons (ds_if (dt_not (dt_val (de_isi rfl T.b_isinstance rfl T.b_tuple (by kernel_rfl) (du_of de_var)))) (dss_one (ds_ret de_non)) dss_nil) (dss_cons (ds_set nd rfl (by first | exact Or.inl rfl | exact Or.inr rfl) de_var) (dss_cons (ds_for hp rfl (di_of de_var) (dg_nm nd rfl (by first | exact Or.inl rfl | exact Or.inr rfl)) (dss_cons (ds_set nd rfl (by first | exact Or.inl rfl | exact Or.inr rfl) (de_call (fd_inner_kinds T) (hr.mono (by decide)) tk rfl (da_cons de_var da_nil))) (dss_cons (ds_if (DW.dt (dw_or (dt_val (de_isi rfl T.b_isinstance rfl T.b_bool (by kernel_rfl) (du_of de_var))) (dw_or (dt_not (dt_val (de_isi rfl T.b_isinstance rfl T.b_int (by kernel_rfl) (du_of de_var)))) (dw_or1 (dt_not (dt_chain (op_leP hu) (op_ltP hu) ordD_ok ordD_ok (du_of de_int) de_var (dv_of (de_len rfl T.b_len (dv_of de_var))))))))) (dss_one (ds_ret de_non)) dss_nil) (dss_one (ds_set nd rfl (by first | exact Or.inl rfl | exact Or.inr rfl) (de_ix (du_of de_var) de_var)))))) (dss_one (ds_ret de_var)))))
theorem sc_node_or_none : C8.scC N_node_or_none ["kind", "path"] (defScope s_node_or_none) = true := by kernel_rfl
theorem fd_node_or_none (T : Top P w K mg base) : FdOk P w K mg base 2 "node_or_none" ["kind", "path"] [] F_node_or_none := by
  obtain ⟨f, fd, hm, D⟩ := T.f_node_or_none
  exact fd_ok D sc_node_or_none hm (fun _ _ _ _ _ _ us hl => match us, hl with | [_, _], _ => rfl) fun cdv A outer s H E hr => b_node_or_none T hr
def N_node_at : List Str := ["kind", "path", "node"]
noncomputable def B_node_at : SS := (qSeq (qDrop (sCall F_check_kind [.bl false] (sCons (sVar 0) sNil))) (qSeq (qSet 2 (sCall F_node_or_none [] (sCons (sVar 0) (sCons (sVar 1) sNil)))) (qSeq (qIf (c2 (isNB id) (sVar 2) (sV (sC .non))) (qRaise "BadPath" ["path"] (sCons (sVar 1) sNil)) qNil) (qRet (sVar 2)))))
noncomputable def F_node_at : SemF := defF 2 3 B_node_at
theorem b_node_at {f : Addr} {cdv : Value} {A : Around} {outer : List Env} {s : Shared} {H : Hp} {E : XK} (T : Top P w K mg base) (hr : Room 5 (A.deeper (envOfC "node_at" (defScope s_node_at) s.heap.objs.size f cdv))) : DSs (bodyX P w K mg base N_node_at "node_at" (defScope s_node_at) f cdv A outer s H E) (bodyW E) (defBody s_node_at) B_node_at := by
  have nd : N_node_at.Nodup := by decide
  have hu := room_units hr
  have tk := body_takes (P := P) (w := w) (K := K) (mg := mg) (base := base) (N := N_node_at) (x := "node_at") (sc := defScope s_node_at) (f := f) (cdv := cdv) (A := A) (outer := outer) (s := s) (H := H) (E := E)
  have hp := body_passes (P := P) (w := w) (K := K) (mg := mg) (base := base) (N := N_node_at) (x := "node_at") (sc := defScope s_node_at) (f := f) (cdv := cdv) (A := A) (outer := outer) (s := s) (H := H) (E := E)
  unfold B_node_at
  exact (dss_cons (ds_expr (de_call (fd_check_kind T) (hr.mono (by decide)) tk rfl (da_cons de_var da_nil))) (dss_cons (ds_set nd rfl (by first | exact Or.inl rfl | exact Or.inr rfl) (de_call (fd_node_or_none T) (hr.mono (by decide)) tk rfl (da_cons de_var (da_cons de_var da_nil)))) (dss_cons (ds_if (dt_cmp op_isN isN_ok (du_of de_var) (dv_of de_non) (by rfl)) (dss_one (ds_raise T.x_BadPath rfl tk (hr.mono (by decide)) rfl (da_cons de_var da_nil))) dss_nil) (dss_one (ds_ret de_var)))))
theorem sc_node_at : C8.scC N_node_at ["kind", "path"] (defScope s_node_at) = true := by kernel_rfl
theorem fd_node_at (T : Top P w K mg base) : FdOk P w K mg base 6 "node_at" ["kind", "path"] [] F_node_at := by
  obtain ⟨f, fd, hm, D⟩ := T.f_node_at
  exact fd_ok D sc_node_at hm (fun _ _ _ _ _ _ us hl => match us, hl with | [_, _], _ => rfl) fun cdv A outer s H E hr => b_node_at T hr
def N_with_inner : List Str := ["node", "at", "part", "sort", "tag", "word", "spare"]
noncomputable def B_with_inner : SS := (qSeq (qSet 3 (sIx (sVar 0) (sC (.int 0)))) (qSeq (qIf (c2 eqD (sVar 3) (sV (sC (.str "row")))) (qRet (sTup (sCons (sC (.str "row")) (sCons (s2 addD (s2 addD (sSl (sIx (sVar 0) (sC (.int 1))) pNone (pSome (sVar 1))) (sTup (sCons (sVar 2) sNil))) (sSl (sIx (sVar 0) (sC (.int 1))) (pSome (s2 addD (sVar 1) (sC (.int 1)))) pNone)) sNil)))) qNil) (qSeq (qIf (c2 eqD (sVar 3) (sV (sC (.str "choice")))) (qSeq (qAsg (.tp [(.nm 4), (.nm 5), (.nm 6)]) (sIx (sIx (sVar 0) (sC (.int 1))) (sVar 1))) (qRet (sTup (sCons (sC (.str "choice")) (sCons (s2 addD (s2 addD (sSl (sIx (sVar 0) (sC (.int 1))) pNone (pSome (sVar 1))) (sTup (sCons (sTup (sCons (sVar 4) (sCons (sVar 5) (sCons (sVar 2) sNil)))) sNil))) (sSl (sIx (sVar 0) (sC (.int 1))) (pSome (s2 addD (sVar 1) (sC (.int 1)))) pNone)) sNil))))) qNil) (qSeq (qIf (c2 eqD (sVar 3) (sV (sC (.str "list")))) (qRet (s2 addD (sSl (sVar 0) pNone (pSome (sC (.int 4)))) (sTup (sCons (sVar 2) sNil)))) qNil) (qRet (sTup (sCons (sC (.str "turned")) (sCons (sVar 2) sNil))))))))
noncomputable def F_with_inner : SemF := defF 3 7 B_with_inner
theorem b_with_inner {f : Addr} {cdv : Value} {A : Around} {outer : List Env} {s : Shared} {H : Hp} {E : XK} (T : Top P w K mg base) (hr : Room 0 (A.deeper (envOfC "with_inner" (defScope s_with_inner) s.heap.objs.size f cdv))) : DSs (bodyX P w K mg base N_with_inner "with_inner" (defScope s_with_inner) f cdv A outer s H E) (bodyW E) (defBody s_with_inner) B_with_inner := by
  have nd : N_with_inner.Nodup := by decide
  have hu := room_units hr
  have tk := body_takes (P := P) (w := w) (K := K) (mg := mg) (base := base) (N := N_with_inner) (x := "with_inner") (sc := defScope s_with_inner) (f := f) (cdv := cdv) (A := A) (outer := outer) (s := s) (H := H) (E := E)
  have hp := body_passes (P := P) (w := w) (K := K) (mg := mg) (base := base) (N := N_with_inner) (x := "with_inner") (sc := defScope s_with_inner) (f := f) (cdv := cdv) (A := A) (outer := outer) (s := s) (H := H) (E := E)
  unfold B_with_inner
  exact (dss_cons (ds_set nd rfl (by first | exact Or.inl rfl | exact Or.inr rfl) (de_ix (du_of de_var) de_int)) (dss_cons (ds_if (dt_cmp (op_eqP hu) eqD_ok (du_of de_var) (dv_of de_str) (by rfl)) (dss_one (ds_ret (de_tup (da_cons de_str (da_cons (de_add (de_add (de_sl (du_of (de_ix (du_of de_var) de_int)) dp_none (dp_some de_var)) (de_tup (da_cons de_var da_nil))) (de_sl (du_of (de_ix (du_of de_var) de_int)) (dp_some (de_add de_var de_int)) dp_none)) da_nil))))) dss_nil) (dss_cons (ds_if (dt_cmp (op_eqP hu) eqD_ok (du_of de_var) (dv_of de_str) (by rfl)) (dss_cons (ds_asg (de_ix (du_of (de_ix (du_of de_var) de_int)) de_var) (dg_tp rfl (dgs_cons (dg_nm nd rfl (by first | exact Or.inl rfl | exact Or.inr rfl)) (dgs_cons (dg_nm nd rfl (by first | exact Or.inl rfl | exact Or.inr rfl)) (dgs_cons (dg_nm nd rfl (by first | exact Or.inl rfl | exact Or.inr rfl)) dgs_nil))))) (dss_one (ds_ret (de_tup (da_cons de_str (da_cons (de_add (de_add (de_sl (du_of (de_ix (du_of de_var) de_int)) dp_none (dp_some de_var)) (de_tup (da_cons (de_tup (da_cons de_var (da_cons de_var (da_cons de_var da_nil)))) da_nil))) (de_sl (du_of (de_ix (du_of de_var) de_int)) (dp_some (de_add de_var de_int)) dp_none)) da_nil)))))) dss_nil) (dss_cons (ds_if (dt_cmp (op_eqP hu) eqD_ok (du_of de_var) (dv_of de_str) (by rfl)) (dss_one (ds_ret (de_add (de_sl (du_of de_var) dp_none (dp_some de_int)) (de_tup (da_cons de_var da_nil))))) dss_nil) (dss_one (ds_ret (de_tup (da_cons de_str (da_cons de_var da_nil)))))))))
theorem sc_with_inner : C8.scC N_with_inner ["node", "at", "part"] (defScope s_with_inner) = true := by kernel_rfl
theorem fd_with_inner (T : Top P w K mg base) : FdOk P w K mg base 1 "with_inner" ["node", "at", "part"] [] F_with_inner := by
  obtain ⟨f, fd, hm, D⟩ := T.f_with_inner
  exact fd_ok D sc_with_inner hm (fun _ _ _ _ _ _ us hl => match us, hl with | [_, _, _], _ => rfl) fun cdv A outer s H E hr => b_with_inner T hr
def N_put_at : List Str := ["kind", "path", "part", "around", "node", "at", "made", "depth"]
noncomputable def B_put_at : SS := (qSeq (qDrop (sCall F_check_kind [.bl false] (sCons (sVar 0) sNil))) (qSeq (qIf (c2 (isNB id) (sCall F_node_or_none [] (sCons (sVar 0) (sCons (sVar 1) sNil))) (sV (sC .non))) (qRaise "BadPath" ["path"] (sCons (sVar 1) sNil)) qNil) (qSeq (qDrop (sCall F_check_kind [.bl false] (sCons (sVar 2) sNil))) (qSeq (qSetO 3 (sLst sNil)) (qSeq (qSet 4 (sVar 0)) (qSeq (qFor (sIt (sVar 1)) (.nm 5) (qSeq (qM 3 kApp (sCons (sVar 4) sNil)) (qSet 4 (sIx (sCall F_inner_kinds [] (sCons (sVar 4) sNil)) (sVar 5))))) (qSeq (qSet 6 (sVar 2)) (qSeq (qFor (sItA r3D (sCons (s2 subD (s1 lenD (sV (sVar 1))) (sC (.int 1))) (sCons (s1 negD (sC (.int 1))) (sCons (s1 negD (sC (.int 1))) sNil)))) (.nm 7) (qSet 6 (sCall F_with_inner [] (sCons (sIx (sOwn 3) (sVar 7)) (sCons (sIx (sVar 1) (sVar 7)) (sCons (sVar 6) sNil)))))) (qSeq (qDrop (sCall F_check_kind [.bl false] (sCons (sVar 6) sNil))) (qRet (sVar 6)))))))))))
noncomputable def F_put_at : SemF := defF 3 8 B_put_at
theorem b_put_at {f : Addr} {cdv : Value} {A : Around} {outer : List Env} {s : Shared} {H : Hp} {E : XK} (T : Top P w K mg base) (hr : Room 5 (A.deeper (envOfC "put_at" (defScope s_put_at) s.heap.objs.size f cdv))) : DSs (bodyX P w K mg base N_put_at "put_at" (defScope s_put_at) f cdv A outer s H E) (bodyW E) (defBody s_put_at) B_put_at := by
  have nd : N_put_at.Nodup := by decide
  have hu := room_units hr
  have tk := body_takes (P := P) (w := w) (K := K) (mg := mg) (base := base) (N := N_put_at) (x := "put_at") (sc := defScope s_put_at) (f := f) (cdv := cdv) (A := A) (outer := outer) (s := s) (H := H) (E := E)
  have hp := body_passes (P := P) (w := w) (K := K) (mg := mg) (base := base) (N := N_put_at) (x := "put_at") (sc := defScope s_put_at) (f := f) (cdv := cdv) (A := A) (outer := outer) (s := s) (H := H) (E := E)
  unfold B_put_at
  exact (dss_cons (ds_expr (de_call (fd_check_kind T) (hr.mono (by decide)) tk rfl (da_cons de_var da_nil))) (dss_cons (ds_if (dt_cmp op_isN isN_ok (du_of (de_call (fd_node_or_none T) (hr.mono (by decide)) tk rfl (da_cons de_var (da_cons de_var da_nil)))) (dv_of de_non) (by rfl)) (dss_one (ds_raise T.x_BadPath rfl tk (hr.mono (by decide)) rfl (da_cons de_var da_nil))) dss_nil) (dss_cons (ds_expr (de_call (fd_check_kind T) (hr.mono (by decide)) tk rfl (da_cons de_var da_nil))) (dss_cons (ds_setO nd rfl (by first | exact Or.inl rfl | exact Or.inr rfl) (do_lst da_nil)) (dss_cons (ds_set nd rfl (by first | exact Or.inl rfl | exact Or.inr rfl) de_var) (dss_cons (ds_for hp rfl (di_of de_var) (dg_nm nd rfl (by first | exact Or.inl rfl | exact Or.inr rfl)) (dss_cons (ds_m F.slot_list_append F.type_list_append mt_append md_app (da_cons de_var da_nil)) (dss_one (ds_set nd rfl (by first | exact Or.inl rfl | exact Or.inr rfl) (de_ix (du_of (de_call (fd_inner_kinds T) (hr.mono (by decide)) tk rfl (da_cons de_var da_nil))) de_var))))) (dss_cons (ds_set nd rfl (by first | exact Or.inl rfl | exact Or.inr rfl) de_var) (dss_cons (ds_for hp rfl (di_r3 rfl T.b_range (da_cons (de_sub (de_len rfl T.b_len (dv_of de_var)) de_int) (da_cons (de_neg de_int) (da_cons (de_neg de_int) da_nil)))) (dg_nm nd rfl (by first | exact Or.inl rfl | exact Or.inr rfl)) (dss_one (ds_set nd rfl (by first | exact Or.inl rfl | exact Or.inr rfl) (de_call (fd_with_inner T) (hr.mono (by decide)) tk rfl (da_cons (de_ix du_own de_var) (da_cons (de_ix (du_of de_var) de_var) (da_cons de_var da_nil))))))) (dss_cons (ds_expr (de_call (fd_check_kind T) (hr.mono (by decide)) tk rfl (da_cons de_var da_nil))) (dss_one (ds_ret de_var)))))))))))
theorem sc_put_at : C8.scC N_put_at ["kind", "path", "part"] (defScope s_put_at) = true := by kernel_rfl
theorem fd_put_at (T : Top P w K mg base) : FdOk P w K mg base 6 "put_at" ["kind", "path", "part"] [] F_put_at := by
  obtain ⟨f, fd, hm, D⟩ := T.f_put_at
  exact fd_ok D sc_put_at hm (fun _ _ _ _ _ _ us hl => match us, hl with | [_, _, _], _ => rfl) fun cdv A outer s H E hr => b_put_at T hr
def N_letters_of : List Str := ["kind"]
noncomputable def B_letters_of : SS := (qSeq (qDrop (sCall F_check_kind [.bl false] (sCons (sVar 0) sNil))) (qRet (sIx (sCall F_kind_sizes [] (sCons (sVar 0) (sCons (sC (.bl false)) sNil))) (sC (.int 1)))))
noncomputable def F_letters_of : SemF := defF 1 1 B_letters_of
theorem b_letters_of {f : Addr} {cdv : Value} {A : Around} {outer : List Env} {s : Shared} {H : Hp} {E : XK} (T : Top P w K mg base) (hr : Room 5 (A.deeper (envOfC "letters_of" (defScope s_letters_of) s.heap.objs.size f cdv))) : DSs (bodyX P w K mg base N_letters_of "letters_of" (defScope s_letters_of) f cdv A outer s H E) (bodyW E) (defBody s_letters_of) B_letters_of := by
  have nd : N_letters_of.Nodup := by decide
  have hu := room_units hr
  have tk := body_takes (P := P) (w := w) (K := K) (mg := mg) (base := base) (N := N_letters_of) (x := "letters_of") (sc := defScope s_letters_of) (f := f) (cdv := cdv) (A := A) (outer := outer) (s := s) (H := H) (E := E)
  have hp := body_passes (P := P) (w := w) (K := K) (mg := mg) (base := base) (N := N_letters_of) (x := "letters_of") (sc := defScope s_letters_of) (f := f) (cdv := cdv) (A := A) (outer := outer) (s := s) (H := H) (E := E)
  unfold B_letters_of
  exact (dss_cons (ds_expr (de_call (fd_check_kind T) (hr.mono (by decide)) tk rfl (da_cons de_var da_nil))) (dss_one (ds_ret (de_ix (du_of (de_call (fd_kind_sizes T) (hr.mono (by decide)) tk rfl (da_cons de_var (da_cons de_bl da_nil)))) de_int))))
theorem sc_letters_of : C8.scC N_letters_of ["kind"] (defScope s_letters_of) = true := by kernel_rfl
theorem fd_letters_of (T : Top P w K mg base) : FdOk P w K mg base 6 "letters_of" ["kind"] [] F_letters_of := by
  obtain ⟨f, fd, hm, D⟩ := T.f_letters_of
  exact fd_ok D sc_letters_of hm (fun _ _ _ _ _ _ us hl => match us, hl with | [_], _ => rfl) fun cdv A outer s H E hr => b_letters_of T hr
def N_depth_of : List Str := ["kind"]
noncomputable def B_depth_of : SS := (qSeq (qDrop (sCall F_check_kind [.bl false] (sCons (sVar 0) sNil))) (qRet (sIx (sCall F_kind_sizes [] (sCons (sVar 0) (sCons (sC (.bl false)) sNil))) (sC (.int 2)))))
noncomputable def F_depth_of : SemF := defF 1 1 B_depth_of
theorem b_depth_of {f : Addr} {cdv : Value} {A : Around} {outer : List Env} {s : Shared} {H : Hp} {E : XK} (T : Top P w K mg base) (hr : Room 5 (A.deeper (envOfC "depth_of" (defScope s_depth_of) s.heap.objs.size f cdv))) : DSs (bodyX P w K mg base N_depth_of "depth_of" (defScope s_depth_of) f cdv A outer s H E) (bodyW E) (defBody s_depth_of) B_depth_of := by
  have nd : N_depth_of.Nodup := by decide
  have hu := room_units hr
  have tk := body_takes (P := P) (w := w) (K := K) (mg := mg) (base := base) (N := N_depth_of) (x := "depth_of") (sc := defScope s_depth_of) (f := f) (cdv := cdv) (A := A) (outer := outer) (s := s) (H := H) (E := E)
  have hp := body_passes (P := P) (w := w) (K := K) (mg := mg) (base := base) (N := N_depth_of) (x := "depth_of") (sc := defScope s_depth_of) (f := f) (cdv := cdv) (A := A) (outer := outer) (s := s) (H := H) (E := E)
  unfold B_depth_of
  exact (dss_cons (ds_expr (de_call (fd_check_kind T) (hr.mono (by decide)) tk rfl (da_cons de_var da_nil))) (dss_one (ds_ret (de_ix (du_of (de_call (fd_kind_sizes T) (hr.mono (by decide)) tk rfl (da_cons de_var (da_cons de_bl da_nil)))) de_int))))
theorem sc_depth_of : C8.scC N_depth_of ["kind"] (defScope s_depth_of) = true := by kernel_rfl
theorem fd_depth_of (T : Top P w K mg base) : FdOk P w K mg base 6 "depth_of" ["kind"] [] F_depth_of := by
  obtain ⟨f, fd, hm, D⟩ := T.f_depth_of
  exact fd_ok D sc_depth_of hm (fun _ _ _ _ _ _ us hl => match us, hl with | [_], _ => rfl) fun cdv A outer s H E hr => b_depth_of T hr
def N_words_of : List Str := ["kind", "path", "node", "direction", "word"]
noncomputable def B_words_of : SS := (qSeq (qDrop (sCall F_check_kind [.bl false] (sCons (sVar 0) sNil))) (qRet (s1 tupOfD (sV (sF (sLc2 (sIt (sCall F_node_rows [] (sCons (sVar 0) sNil))) (.tp [(.nm 1), (.nm 2), (.nm 3)]) bYes (sIt (sCall F_own_words [] (sCons (sVar 2) sNil))) (.nm 4) bYes (sTup (sCons (sVar 1) (sCons (sVar 4) sNil))) [1, 2, 3, 4] [4]))))))
noncomputable def F_words_of : SemF := defF 1 5 B_words_of
theorem b_words_of {f : Addr} {cdv : Value} {A : Around} {outer : List Env} {s : Shared} {H : Hp} {E : XK} (T : Top P w K mg base) (hr : Room 5 (A.deeper (envOfC "words_of" (defScope s_words_of) s.heap.objs.size f cdv))) : DSs (bodyX P w K mg base N_words_of "words_of" (defScope s_words_of) f cdv A outer s H E) (bodyW E) (defBody s_words_of) B_words_of := by
  have nd : N_words_of.Nodup := by decide
  have hu := room_units hr
  have tk := body_takes (P := P) (w := w) (K := K) (mg := mg) (base := base) (N := N_words_of) (x := "words_of") (sc := defScope s_words_of) (f := f) (cdv := cdv) (A := A) (outer := outer) (s := s) (H := H) (E := E)
  have hp := body_passes (P := P) (w := w) (K := K) (mg := mg) (base := base) (N := N_words_of) (x := "words_of") (sc := defScope s_words_of) (f := f) (cdv := cdv) (A := A) (outer := outer) (s := s) (H := H) (E := E)
  unfold B_words_of
  exact (dss_cons (ds_expr (de_call (fd_check_kind T) (hr.mono (by decide)) tk rfl (da_cons de_var da_nil))) (dss_one (ds_ret (de_tupc rfl T.b_tuple (dv_of (de_do (do_lc2 (own := [("path", 1), ("node", 2), ("direction", 3), ("word", 4)]) (vs1 := [4]) rfl nd (DI.dj (di_of (de_call (fd_node_rows T) (hr.mono (by decide)) tk rfl (da_cons de_var da_nil)))) (by first | rfl | kernel_rfl) (fun _ _ _ _ _ => (dg_tp rfl (dgs_cons (dg_nm nd rfl (by first | exact Or.inl rfl | exact Or.inr rfl)) (dgs_cons (dg_nm nd rfl (by first | exact Or.inl rfl | exact Or.inr rfl)) (dgs_cons (dg_nm nd rfl (by first | exact Or.inl rfl | exact Or.inr rfl)) dgs_nil))))) (fun _ _ _ _ _ => dts_nil) (fun _ _ _ _ _ => (di_of (de_call (fd_own_words T) (hr.mono (by decide)) tk0 rfl (da_cons de_var da_nil)))) (fun _ _ _ _ _ => (dg_nm nd rfl (by first | exact Or.inl rfl | exact Or.inr rfl))) (fun _ _ _ _ _ => dts_nil) (fun _ _ _ _ _ => (de_tup (da_cons de_var (da_cons de_var da_nil)))))))))))
theorem sc_words_of : C8.scC N_words_of ["kind"] (defScope s_words_of) = true := by kernel_rfl
theorem fd_words_of (T : Top P w K mg base) : FdOk P w K mg base 6 "words_of" ["kind"] [] F_words_of := by
  obtain ⟨f, fd, hm, D⟩ := T.f_words_of
  exact fd_ok D sc_words_of hm (fun _ _ _ _ _ _ us hl => match us, hl with | [_], _ => rfl) fun cdv A outer s H E hr => b_words_of T hr
def N_branch_count : List Str := ["node"]
noncomputable def B_branch_count : SS := (qSeq (qIf (c2 eqD (sIx (sVar 0) (sC (.int 0))) (sV (sC (.str "list")))) (qRet (sC (.int 2))) qNil) (qSeq (qIf (bOr (c2 eqD (sIx (sVar 0) (sC (.int 0))) (sV (sC (.str "table")))) (c2 eqD (sIx (sVar 0) (sC (.int 0))) (sV (sC (.str "choice"))))) (qRet (s1 lenD (sV (sIx (sVar 0) (sC (.int 1)))))) qNil) (qRet (sC (.int 0)))))
noncomputable def F_branch_count : SemF := defF 1 1 B_branch_count
theorem b_branch_count {f : Addr} {cdv : Value} {A : Around} {outer : List Env} {s : Shared} {H : Hp} {E : XK} (T : Top P w K mg base) (hr : Room 0 (A.deeper (envOfC "branch_count" (defScope s_branch_count) s.heap.objs.size f cdv))) : DSs (bodyX P w K mg base N_branch_count "branch_count" (defScope s_branch_count) f cdv A outer s H E) (bodyW E) (defBody s_branch_count) B_branch_count := by
  have nd : N_branch_count.Nodup := by decide
  have hu := room_units hr
  have tk := body_takes (P := P) (w := w) (K := K) (mg := mg) (base := base) (N := N_branch_count) (x := "branch_count") (sc := defScope s_branch_count) (f := f) (cdv := cdv) (A := A) (outer := outer) (s := s) (H := H) (E := E)
  have hp := body_passes (P := P) (w := w) (K := K) (mg := mg) (base := base) (N := N_branch_count) (x := "branch_count") (sc := defScope s_branch_count) (f := f) (cdv := cdv) (A := A) (outer := outer) (s := s) (H := H) (E := E)
  unfold B_branch_count
  exact (dss_cons (ds_if (dt_cmp (op_eqP hu) eqD_ok (du_of (de_ix (du_of de_var) de_int)) (dv_of de_str) (by rfl)) (dss_one (ds_ret de_int)) dss_nil) (dss_cons (ds_if (DW.dt (dw_or (dt_cmp (op_eqP hu) eqD_ok (du_of (de_ix (du_of de_var) de_int)) (dv_of de_str) (by rfl)) (dw_or1 (dt_cmp (op_eqP hu) eqD_ok (du_of (de_ix (du_of de_var) de_int)) (dv_of de_str) (by rfl))))) (dss_one (ds_ret (de_len rfl T.b_len (dv_of (de_ix (du_of de_var) de_int))))) dss_nil) (dss_one (ds_ret de_int))))
theorem sc_branch_count : C8.scC N_branch_count ["node"] (defScope s_branch_count) = true := by kernel_rfl
theorem fd_branch_count (T : Top P w K mg base) : FdOk P w K mg base 1 "branch_count" ["node"] [] F_branch_count := by
  obtain ⟨f, fd, hm, D⟩ := T.f_branch_count
  exact fd_ok D sc_branch_count hm (fun _ _ _ _ _ _ us hl => match us, hl with | [_], _ => rfl) fun cdv A outer s H E hr => b_branch_count T hr
def N_places_of : List Str := ["kind", "path", "node", "direction"]
noncomputable def B_places_of : SS := (qSeq (qDrop (sCall F_check_kind [.bl false] (sCons (sVar 0) sNil))) (qRet (s1 tupOfD (sV (sF (sLc (sIt (sCall F_node_rows [] (sCons (sVar 0) sNil))) (.tp [(.nm 1), (.nm 2), (.nm 3)]) (c2 (ordD true false) (sCall F_branch_count [] (sCons (sVar 2) sNil)) (sV (sC (.int 2)))) (sVar 1) [1, 2, 3]))))))
noncomputable def F_places_of : SemF := defF 1 4 B_places_of
theorem b_places_of {f : Addr} {cdv : Value} {A : Around} {outer : List Env} {s : Shared} {H : Hp} {E : XK} (T : Top P w K mg base) (hr : Room 5 (A.deeper (envOfC "places_of" (defScope s_places_of) s.heap.objs.size f cdv))) : DSs (bodyX P w K mg base N_places_of "places_of" (defScope s_places_of) f cdv A outer s H E) (bodyW E) (defBody s_places_of) B_places_of := by
  have nd : N_places_of.Nodup := by decide
  have hu := room_units hr
  have tk := body_takes (P := P) (w := w) (K := K) (mg := mg) (base := base) (N := N_places_of) (x := "places_of") (sc := defScope s_places_of) (f := f) (cdv := cdv) (A := A) (outer := outer) (s := s) (H := H) (E := E)
  have hp := body_passes (P := P) (w := w) (K := K) (mg := mg) (base := base) (N := N_places_of) (x := "places_of") (sc := defScope s_places_of) (f := f) (cdv := cdv) (A := A) (outer := outer) (s := s) (H := H) (E := E)
  unfold B_places_of
  exact (dss_cons (ds_expr (de_call (fd_check_kind T) (hr.mono (by decide)) tk rfl (da_cons de_var da_nil))) (dss_one (ds_ret (de_tupc rfl T.b_tuple (dv_of (de_do (do_lc (own := [("path", 1), ("node", 2), ("direction", 3)]) rfl nd (DI.dj (di_of (de_call (fd_node_rows T) (hr.mono (by decide)) tk rfl (da_cons de_var da_nil)))) (by first | rfl | kernel_rfl) (fun _ _ _ _ _ => (dg_tp rfl (dgs_cons (dg_nm nd rfl (by first | exact Or.inl rfl | exact Or.inr rfl)) (dgs_cons (dg_nm nd rfl (by first | exact Or.inl rfl | exact Or.inr rfl)) (dgs_cons (dg_nm nd rfl (by first | exact Or.inl rfl | exact Or.inr rfl)) dgs_nil))))) (fun _ _ _ _ _ => (dts_one (dt_cmp (op_geP hu) ordD_ok (du_of (de_call (fd_branch_count T) (hr.mono (by decide)) tk0 rfl (da_cons de_var da_nil))) (dv_of de_int) (by rfl)))) (fun _ _ _ _ _ => de_var))))))))
theorem sc_places_of : C8.scC N_places_of ["kind"] (defScope s_places_of) = true := by kernel_rfl
theorem fd_places_of (T : Top P w K mg base) : FdOk P w K mg base 6 "places_of" ["kind"] [] F_places_of := by
  obtain ⟨f, fd, hm, D⟩ := T.f_places_of
  exact fd_ok D sc_places_of hm (fun _ _ _ _ _ _ us hl => match us, hl with | [_], _ => rfl) fun cdv A outer s H E hr => b_places_of T hr
def N_decision_node : List Str := ["kind", "path", "node"]
noncomputable def B_decision_node : SS := (qSeq (qDrop (sCall F_check_kind [.bl false] (sCons (sVar 0) sNil))) (qSeq (qSet 2 (sCall F_node_or_none [] (sCons (sVar 0) (sCons (sVar 1) sNil)))) (qSeq (qIf (bOr (c2 (isNB id) (sVar 2) (sV (sC .non))) (c2 eqD (sCall F_branch_count [] (sCons (sVar 2) sNil)) (sV (sC (.int 0))))) (qRaise "BadPath" ["path"] (sCons (sVar 1) sNil)) qNil) (qRet (sVar 2)))))
noncomputable def F_decision_node : SemF := defF 2 3 B_decision_node
theorem b_decision_node {f : Addr} {cdv : Value} {A : Around} {outer : List Env} {s : Shared} {H : Hp} {E : XK} (T : Top P w K mg base) (hr : Room 5 (A.deeper (envOfC "decision_node" (defScope s_decision_node) s.heap.objs.size f cdv))) : DSs (bodyX P w K mg base N_decision_node "decision_node" (defScope s_decision_node) f cdv A outer s H E) (bodyW E) (defBody s_decision_node) B_decision_node := by
  have nd : N_decision_node.Nodup := by decide
  have hu := room_units hr
  have tk := body_takes (P := P) (w := w) (K := K) (mg := mg) (base := base) (N := N_decision_node) (x := "decision_node") (sc := defScope s_decision_node) (f := f) (cdv := cdv) (A := A) (outer := outer) (s := s) (H := H) (E := E)
  have hp := body_passes (P := P) (w := w) (K := K) (mg := mg) (base := base) (N := N_decision_node) (x := "decision_node") (sc := defScope s_decision_node) (f := f) (cdv := cdv) (A := A) (outer := outer) (s := s) (H := H) (E := E)
  unfold B_decision_node
  exact (dss_cons (ds_expr (de_call (fd_check_kind T) (hr.mono (by decide)) tk rfl (da_cons de_var da_nil))) (dss_cons (ds_set nd rfl (by first | exact Or.inl rfl | exact Or.inr rfl) (de_call (fd_node_or_none T) (hr.mono (by decide)) tk rfl (da_cons de_var (da_cons de_var da_nil)))) (dss_cons (ds_if (DW.dt (dw_or (dt_cmp op_isN isN_ok (du_of de_var) (dv_of de_non) (by rfl)) (dw_or1 (dt_cmp (op_eqP hu) eqD_ok (du_of (de_call (fd_branch_count T) (hr.mono (by decide)) tk rfl (da_cons de_var da_nil))) (dv_of de_int) (by rfl))))) (dss_one (ds_raise T.x_BadPath rfl tk (hr.mono (by decide)) rfl (da_cons de_var da_nil))) dss_nil) (dss_one (ds_ret de_var)))))
theorem sc_decision_node : C8.scC N_decision_node ["kind", "path"] (defScope s_decision_node) = true := by kernel_rfl
theorem fd_decision_node (T : Top P w K mg base) : FdOk P w K mg base 6 "decision_node" ["kind", "path"] [] F_decision_node := by
  obtain ⟨f, fd, hm, D⟩ := T.f_decision_node
  exact fd_ok D sc_decision_node hm (fun _ _ _ _ _ _ us hl => match us, hl with | [_, _], _ => rfl) fun cdv A outer s H E hr => b_decision_node T hr
def N_branches_of : List Str := ["kind", "path"]
noncomputable def B_branches_of : SS := (qRet (sCall F_branch_count [] (sCons (sCall F_decision_node [] (sCons (sVar 0) (sCons (sVar 1) sNil))) sNil)))
noncomputable def F_branches_of : SemF := defF 2 2 B_branches_of
theorem b_branches_of {f : Addr} {cdv : Value} {A : Around} {outer : List Env} {s : Shared} {H : Hp} {E : XK} (T : Top P w K mg base) (hr : Room 6 (A.deeper (envOfC "branches_of" (defScope s_branches_of) s.heap.objs.size f cdv))) : DSs (bodyX P w K mg base N_branches_of "branches_of" (defScope s_branches_of) f cdv A outer s H E) (bodyW E) (defBody s_branches_of) B_branches_of := by
  have nd : N_branches_of.Nodup := by decide
  have hu := room_units hr
  have tk := body_takes (P := P) (w := w) (K := K) (mg := mg) (base := base) (N := N_branches_of) (x := "branches_of") (sc := defScope s_branches_of) (f := f) (cdv := cdv) (A := A) (outer := outer) (s := s) (H := H) (E := E)
  have hp := body_passes (P := P) (w := w) (K := K) (mg := mg) (base := base) (N := N_branches_of) (x := "branches_of") (sc := defScope s_branches_of) (f := f) (cdv := cdv) (A := A) (outer := outer) (s := s) (H := H) (E := E)
  unfold B_branches_of
  exact (dss_one (ds_ret (de_call (fd_branch_count T) (hr.mono (by decide)) tk rfl (da_cons (de_call (fd_decision_node T) (hr.mono (by decide)) tk rfl (da_cons de_var (da_cons de_var da_nil))) da_nil))))
theorem sc_branches_of : C8.scC N_branches_of ["kind", "path"] (defScope s_branches_of) = true := by kernel_rfl
theorem fd_branches_of (T : Top P w K mg base) : FdOk P w K mg base 7 "branches_of" ["kind", "path"] [] F_branches_of := by
  obtain ⟨f, fd, hm, D⟩ := T.f_branches_of
  exact fd_ok D sc_branches_of hm (fun _ _ _ _ _ _ us hl => match us, hl with | [_, _], _ => rfl) fun cdv A outer s H E hr => b_branches_of T hr
def N_direction_at : List Str := ["kind", "path", "direction", "node", "at"]
noncomputable def B_direction_at : SS := (qSeq (qSet 2 (sC (.str "up"))) (qSeq (qSet 3 (sVar 0)) (qSeq (qFor (sIt (sVar 1)) (.nm 4) (qSeq (qIf (c2 eqD (sIx (sVar 3) (sC (.int 0))) (sV (sC (.str "turned")))) (qSet 2 (sCall F_other_direction [] (sCons (sVar 2) sNil))) qNil) (qSet 3 (sIx (sCall F_inner_kinds [] (sCons (sVar 3) sNil)) (sVar 4))))) (qRet (sVar 2)))))
noncomputable def F_direction_at : SemF := defF 2 5 B_direction_at
theorem b_direction_at {f : Addr} {cdv : Value} {A : Around} {outer : List Env} {s : Shared} {H : Hp} {E : XK} (T : Top P w K mg base) (hr : Room 1 (A.deeper (envOfC "direction_at" (defScope s_direction_at) s.heap.objs.size f cdv))) : DSs (bodyX P w K mg base N_direction_at "direction_at" (defScope s_direction_at) f cdv A outer s H E) (bodyW E) (defBody s_direction_at) B_direction_at := by
  have nd : N_direction_at.Nodup := by decide
  have hu := room_units hr
  have tk := body_takes (P := P) (w := w) (K := K) (mg := mg) (base := base) (N := N_direction_at) (x := "direction_at") (sc := defScope s_direction_at) (f := f) (cdv := cdv) (A := A) (outer := outer) (s := s) (H := H) (E := E)
  have hp := body_passes (P := P) (w := w) (K := K) (mg := mg) (base := base) (N := N_direction_at) (x := "direction_at") (sc := defScope s_direction_at) (f := f) (cdv := cdv) (A := A) (outer := outer) (s := s) (H := H) (E := E)
  unfold B_direction_at
  exact (dss_cons (ds_set nd rfl (by first | exact Or.inl rfl | exact Or.inr rfl) de_str) (dss_cons (ds_set nd rfl (by first | exact Or.inl rfl | exact Or.inr rfl) de_var) (dss_cons (ds_for hp rfl (di_of de_var) (dg_nm nd rfl (by first | exact Or.inl rfl | exact Or.inr rfl)) (dss_cons (ds_if (dt_cmp (op_eqP hu) eqD_ok (du_of (de_ix (du_of de_var) de_int)) (dv_of de_str) (by rfl)) (dss_one (ds_set nd rfl (by first | exact Or.inl rfl | exact Or.inr rfl) (de_call (fd_other_direction T) (hr.mono (by decide)) tk rfl (da_cons de_var da_nil)))) dss_nil) (dss_one (ds_set nd rfl (by first | exact Or.inl rfl | exact Or.inr rfl) (de_ix (du_of (de_call (fd_inner_kinds T) (hr.mono (by decide)) tk rfl (da_cons de_var da_nil))) de_var))))) (dss_one (ds_ret de_var)))))
theorem sc_direction_at : C8.scC N_direction_at ["kind", "path"] (defScope s_direction_at) = true := by kernel_rfl
theorem fd_direction_at (T : Top P w K mg base) : FdOk P w K mg base 2 "direction_at" ["kind", "path"] [] F_direction_at := by
  obtain ⟨f, fd, hm, D⟩ := T.f_direction_at
  exact fd_ok D sc_direction_at hm (fun _ _ _ _ _ _ us hl => match us, hl with | [_, _], _ => rfl) fun cdv A outer s H E hr => b_direction_at T hr
def N_line_for : List Str := ["node", "direction", "line"]
noncomputable def B_line_for : SS := (qSeq (qSet 2 (s1 rgTD (sCall F_branch_count [] (sCons (sVar 0) sNil)))) (qSeq (qIf (bAnd (c2 eqD (sIx (sVar 0) (sC (.int 0))) (sV (sC (.str "list")))) (c2 eqD (sIx (sVar 0) (sC (.int 3))) (sV (sC (.str "last"))))) (qSet 2 (sTup (sCons (sC (.int 1)) (sCons (sC (.int 0)) sNil)))) qNil) (qRet (sIf (c2 eqD (sVar 1) (sV (sC (.str "up")))) (sVar 2) (sRevT (sVar 2))))))
noncomputable def F_line_for : SemF := defF 2 3 B_line_for
theorem b_line_for {f : Addr} {cdv : Value} {A : Around} {outer : List Env} {s : Shared} {H : Hp} {E : XK} (T : Top P w K mg base) (hr : Room 1 (A.deeper (envOfC "line_for" (defScope s_line_for) s.heap.objs.size f cdv))) : DSs (bodyX P w K mg base N_line_for "line_for" (defScope s_line_for) f cdv A outer s H E) (bodyW E) (defBody s_line_for) B_line_for := by
  have nd : N_line_for.Nodup := by decide
  have hu := room_units hr
  have tk := body_takes (P := P) (w := w) (K := K) (mg := mg) (base := base) (N := N_line_for) (x := "line_for") (sc := defScope s_line_for) (f := f) (cdv := cdv) (A := A) (outer := outer) (s := s) (H := H) (E := E)
  have hp := body_passes (P := P) (w := w) (K := K) (mg := mg) (base := base) (N := N_line_for) (x := "line_for") (sc := defScope s_line_for) (f := f) (cdv := cdv) (A := A) (outer := outer) (s := s) (H := H) (E := E)
  unfold B_line_for
  exact (dss_cons (ds_set nd rfl (by first | exact Or.inl rfl | exact Or.inr rfl) (de_tuprg rfl rfl T.b_tuple rfl T.b_range (de_call (fd_branch_count T) (hr.mono (by decide)) tk rfl (da_cons de_var da_nil)))) (dss_cons (ds_if (DW.dt (dw_and (dt_cmp (op_eqP hu) eqD_ok (du_of (de_ix (du_of de_var) de_int)) (dv_of de_str) (by rfl)) (dw_and1 (dt_cmp (op_eqP hu) eqD_ok (du_of (de_ix (du_of de_var) de_int)) (dv_of de_str) (by rfl))))) (dss_one (ds_set nd rfl (by first | exact Or.inl rfl | exact Or.inr rfl) (de_tup (da_cons de_int (da_cons de_int da_nil))))) dss_nil) (dss_one (ds_ret (de_if (dt_cmp (op_eqP hu) eqD_ok (du_of de_var) (dv_of de_str) (by rfl)) de_var (de_revT de_var))))))
theorem sc_line_for : C8.scC N_line_for ["node", "direction"] (defScope s_line_for) = true := by kernel_rfl
theorem fd_line_for (T : Top P w K mg base) : FdOk P w K mg base 2 "line_for" ["node", "direction"] [] F_line_for := by
  obtain ⟨f, fd, hm, D⟩ := T.f_line_for
  exact fd_ok D sc_line_for hm (fun _ _ _ _ _ _ us hl => match us, hl with | [_, _], _ => rfl) fun cdv A outer s H E hr => b_line_for T hr
def N_line_of : List Str := ["kind", "path", "node"]
noncomputable def B_line_of : SS := (qSeq (qSet 2 (sCall F_decision_node [] (sCons (sVar 0) (sCons (sVar 1) sNil)))) (qRet (sCall F_line_for [] (sCons (sVar 2) (sCons (sCall F_direction_at [] (sCons (sVar 0) (sCons (sVar 1) sNil))) sNil)))))
noncomputable def F_line_of : SemF := defF 2 3 B_line_of
theorem b_line_of {f : Addr} {cdv : Value} {A : Around} {outer : List Env} {s : Shared} {H : Hp} {E : XK} (T : Top P w K mg base) (hr : Room 6 (A.deeper (envOfC "line_of" (defScope s_line_of) s.heap.objs.size f cdv))) : DSs (bodyX P w K mg base N_line_of "line_of" (defScope s_line_of) f cdv A outer s H E) (bodyW E) (defBody s_line_of) B_line_of := by
  have nd : N_line_of.Nodup := by decide
  have hu := room_units hr
  have tk := body_takes (P := P) (w := w) (K := K) (mg := mg) (base := base) (N := N_line_of) (x := "line_of") (sc := defScope s_line_of) (f := f) (cdv := cdv) (A := A) (outer := outer) (s := s) (H := H) (E := E)
  have hp := body_passes (P := P) (w := w) (K := K) (mg := mg) (base := base) (N := N_line_of) (x := "line_of") (sc := defScope s_line_of) (f := f) (cdv := cdv) (A := A) (outer := outer) (s := s) (H := H) (E := E)
  unfold B_line_of
  exact (dss_cons (ds_set nd rfl (by first | exact Or.inl rfl | exact Or.inr rfl) (de_call (fd_decision_node T) (hr.mono (by decide)) tk rfl (da_cons de_var (da_cons de_var da_nil)))) (dss_one (ds_ret (de_call (fd_line_for T) (hr.mono (by decide)) tk rfl (da_cons de_var (da_cons (de_call (fd_direction_at T) (hr.mono (by decide)) tk rfl (da_cons de_var (da_cons de_var da_nil))) da_nil))))))
theorem sc_line_of : C8.scC N_line_of ["kind", "path"] (defScope s_line_of) = true := by kernel_rfl
theorem fd_line_of (T : Top P w K mg base) : FdOk P w K mg base 7 "line_of" ["kind", "path"] [] F_line_of := by
  obtain ⟨f, fd, hm, D⟩ := T.f_line_of
  exact fd_ok D sc_line_of hm (fun _ _ _ _ _ _ us hl => match us, hl with | [_, _], _ => rfl) fun cdv A outer s H E hr => b_line_of T hr
def N__law_store : List Str := ["script", "top", "cells", "seed", "cell", "size", "sign"]
noncomputable def B__law_store : SS := (qSeq (qSet 1 (s2 powWD (s2 powWD (sC (.int 10)) (sC (.int 60))) (sC (.int 10)))) (qSeq (qSetO 2 (sLst sNil)) (qSeq (qSet 3 (sC (.int 11))) (qSeq (qFor (sIt (sSl (sVar 0) pNone (pSome (sC (.int 63))))) (.nm 4) (qSeq (qSet 5 (s2 modD (s1 intD (sV (s1 absD (sV (sVar 4))))) (sVar 1))) (qSeq (qSet 6 (s1 intD (sV (sB (c2 (ordD false false) (sVar 4) (sV (sC (.int 0)))))))) (qSeq (qM 2 kApp (sCons (sTup (sCons (sVar 5) (sCons (sVar 6) sNil))) sNil)) (qSet 3 (s2 modD (s1 intD (sV (s2 addD (s2 addD (s2 addD (s2 mulD (sVar 3) (sC (.int 48271))) (s2 mulD (s2 modD (s1 intD (sV (sVar 5))) (sC (.int 2147483647))) (sC (.int 2)))) (sVar 6)) (sC (.int 1))))) (sC (.int 2147483629)))))))) (qFrz 2 (qRetO (sLst (sCons (sVar 2) (sCons (sC (.int 0)) (sCons (sC (.int 0)) (sCons (sC (.int 0)) (sCons (sVar 3) (sCons (sC (.int 0)) (sCons (sVar 3) sNil))))))))))))))
noncomputable def F__law_store : SemF := defF 1 7 B__law_store
theorem b__law_store {f : Addr} {cdv : Value} {A : Around} {outer : List Env} {s : Shared} {H : Hp} {E : XK} (T : Top P w K mg base) (hr : Room 0 (A.deeper (envOfC "_law_store" (defScope s__law_store) s.heap.objs.size f cdv))) : DSs (bodyX P w K mg base N__law_store "_law_store" (defScope s__law_store) f cdv A outer s H E) (bodyW E) (defBody s__law_store) B__law_store := by
  have nd : N__law_store.Nodup := by decide
  have hu := room_units hr
  have tk := body_takes (P := P) (w := w) (K := K) (mg := mg) (base := base) (N := N__law_store) (x := "_law_store") (sc := defScope s__law_store) (f := f) (cdv := cdv) (A := A) (outer := outer) (s := s) (H := H) (E := E)
  have hp := body_passes (P := P) (w := w) (K := K) (mg := mg) (base := base) (N := N__law_store) (x := "_law_store") (sc := defScope s__law_store) (f := f) (cdv := cdv) (A := A) (outer := outer) (s := s) (H := H) (E := E)
  unfold B__law_store
  exact (dss_cons (ds_set nd rfl (by first | exact Or.inl rfl | exact Or.inr rfl) (de_powW (de_powW de_int de_int) de_int)) (dss_cons (ds_setO nd rfl (by first | exact Or.inl rfl | exact Or.inr rfl) (do_lst da_nil)) (dss_cons (ds_set nd rfl (by first | exact Or.inl rfl | exact Or.inr rfl) de_int) (dss_cons (ds_for hp rfl (di_of (de_sl (du_of de_var) dp_none (dp_some de_int))) (dg_nm nd rfl (by first | exact Or.inl rfl | exact Or.inr rfl)) (dss_cons (ds_set nd rfl (by first | exact Or.inl rfl | exact Or.inr rfl) (de_mod (de_intc rfl T.b_int (dv_of (de_abs rfl T.b_abs (dv_of de_var)))) de_var)) (dss_cons (ds_set nd rfl (by first | exact Or.inl rfl | exact Or.inr rfl) (de_intc rfl T.b_int (dv_of (de_cmp (op_ltP hu) ordD_ok (du_of de_var) (dv_of de_int) (by rfl))))) (dss_cons (ds_m F.slot_list_append F.type_list_append mt_append md_app (da_cons (de_tup (da_cons de_var (da_cons de_var da_nil))) da_nil)) (dss_one (ds_set nd rfl (by first | exact Or.inl rfl | exact Or.inr rfl) (de_mod (de_intc rfl T.b_int (dv_of (de_add (de_add (de_add (de_mul de_var de_int) (de_mul (de_mod (de_intc rfl T.b_int (dv_of de_var)) de_int) de_int)) de_var) de_int))) de_int))))))) (dss_frz (dss_one (ds_retO (do_lst (da_cons de_var (da_cons de_int (da_cons de_int (da_cons de_int (da_cons de_var (da_cons de_int (da_cons de_var da_nil)))))))))))))))
theorem sc__law_store : C8.scC N__law_store ["script"] (defScope s__law_store) = true := by kernel_rfl
theorem fd__law_store (T : Top P w K mg base) : FdOk P w K mg base 1 "_law_store" ["script"] [] F__law_store := by
  obtain ⟨f, fd, hm, D⟩ := T.f__law_store
  exact fd_ok D sc__law_store hm (fun _ _ _ _ _ _ us hl => match us, hl with | [_], _ => rfl) fun cdv A outer s H E hr => b__law_store T hr
def N__law_refill : List Str := ["store", "cell"]
noncomputable def B__law_refill : SS := (qSeq (qSetR (sC (.int 0)) (sVar 0) (sC (.int 2))) (qSeq (qSetR (sIx (sVar 0) (sC (.int 6))) (sVar 0) (sC (.int 4))) (qSeq (qSetR (sC (.int 1000)) (sVar 0) (sC (.int 5))) (qIf (c2 (ordD false false) (sIx (sVar 0) (sC (.int 1))) (sV (s1 lenD (sV (sIx (sVar 0) (sC (.int 0))))))) (qSeq (qSet 1 (sIx (sIx (sVar 0) (sC (.int 0))) (sIx (sVar 0) (sC (.int 1))))) (qSeq (qSetR (s2 addD (sIx (sVar 0) (sC (.int 1))) (sC (.int 1))) (sVar 0) (sC (.int 1))) (qSeq (qSetR (s2 addD (s2 mulD (sIx (sVar 1) (sC (.int 0))) (sC (.int 2))) (sIx (sVar 1) (sC (.int 1)))) (sVar 0) (sC (.int 4))) (qSeq (qSetR (sC (.int 4)) (sVar 0) (sC (.int 5))) (qIf (c2 (ordD true false) (sIx (sVar 1) (sC (.int 0))) (sV (s2 powWD (sC (.int 10)) (sC (.int 18))))) (qSeq (qSetR (s2 addD (s2 mulD (sIx (sVar 1) (sC (.int 0))) (s2 addD (sC (.int 1)) (s2 mulD (sC (.int 2)) (sIx (sVar 1) (sC (.int 1)))))) (sIx (sVar 1) (sC (.int 1)))) (sVar 0) (sC (.int 2))) (qSetR (sC (.int 0)) (sVar 0) (sC (.int 5)))) qNil))))) qNil))))
noncomputable def F__law_refill : SemF := defF 1 2 B__law_refill
theorem b__law_refill {f : Addr} {cdv : Value} {A : Around} {outer : List Env} {s : Shared} {H : Hp} {E : XK} (T : Top P w K mg base) (hr : Room 0 (A.deeper (envOfC "_law_refill" (defScope s__law_refill) s.heap.objs.size f cdv))) : DSs (bodyX P w K mg base N__law_refill "_law_refill" (defScope s__law_refill) f cdv A outer s H E) (bodyW E) (defBody s__law_refill) B__law_refill := by
  have nd : N__law_refill.Nodup := by decide
  have hu := room_units hr
  have tk := body_takes (P := P) (w := w) (K := K) (mg := mg) (base := base) (N := N__law_refill) (x := "_law_refill") (sc := defScope s__law_refill) (f := f) (cdv := cdv) (A := A) (outer := outer) (s := s) (H := H) (E := E)
  have hp := body_passes (P := P) (w := w) (K := K) (mg := mg) (base := base) (N := N__law_refill) (x := "_law_refill") (sc := defScope s__law_refill) (f := f) (cdv := cdv) (A := A) (outer := outer) (s := s) (H := H) (E := E)
  unfold B__law_refill
  exact (dss_cons (ds_setR de_int de_var de_int) (dss_cons (ds_setR (de_ix (du_of de_var) de_int) de_var de_int) (dss_cons (ds_setR de_int de_var de_int) (dss_one (ds_if (dt_cmp (op_ltP hu) ordD_ok (du_of (de_ix (du_of de_var) de_int)) (dv_of (de_len rfl T.b_len (dv_of (de_ix (du_of de_var) de_int)))) (by rfl)) (dss_cons (ds_set nd rfl (by first | exact Or.inl rfl | exact Or.inr rfl) (de_ix (du_of (de_ix (du_of de_var) de_int)) (de_ix (du_of de_var) de_int))) (dss_cons (ds_setR (de_add (de_ix (du_of de_var) de_int) de_int) de_var de_int) (dss_cons (ds_setR (de_add (de_mul (de_ix (du_of de_var) de_int) de_int) (de_ix (du_of de_var) de_int)) de_var de_int) (dss_cons (ds_setR de_int de_var de_int) (dss_one (ds_if (dt_cmp (op_geP hu) ordD_ok (du_of (de_ix (du_of de_var) de_int)) (dv_of (de_powW de_int de_int)) (by rfl)) (dss_cons (ds_setR (de_add (de_mul (de_ix (du_of de_var) de_int) (de_add de_int (de_mul de_int (de_ix (du_of de_var) de_int)))) (de_ix (du_of de_var) de_int)) de_var de_int) (dss_one (ds_setR de_int de_var de_int))) dss_nil)))))) dss_nil)))))
theorem sc__law_refill : C8.scC N__law_refill ["store"] (defScope s__law_refill) = true := by kernel_rfl
theorem fd__law_refill (T : Top P w K mg base) : FdOk P w K mg base 1 "_law_refill" ["store"] [] F__law_refill := by
  obtain ⟨f, fd, hm, D⟩ := T.f__law_refill
  exact fd_ok D sc__law_refill hm (fun _ _ _ _ _ _ us hl => match us, hl with | [_], _ => rfl) fun cdv A outer s H E hr => b__law_refill T hr
def N__law_mix : List Str := ["number", "turn", "one", "two"]
noncomputable def B__law_mix : SS := (qSeq (qSet 2 (s2 modD (s1 intD (sV (s2 addD (s2 addD (s2 mulD (sVar 0) (sC (.int 6364136223846793005))) (s2 mulD (sVar 1) (sC (.int 1442695040888963407)))) (sC (.int 1013904223))))) (sC (.int 2305843009213693951)))) (qSeq (qSet 3 (s2 modD (s1 intD (sV (s2 addD (s2 addD (s2 mulD (sVar 2) (sVar 2)) (s2 divD (sVar 2) (sC (.int 4099)))) (s2 mulD (sVar 1) (sC (.int 69621)))))) (sC (.int 2305843009213693921)))) (qRet (s2 modD (s1 intD (sV (s2 addD (s2 mulD (sVar 3) (sC (.int 48271))) (s2 divD (sVar 3) (sC (.int 2147483647)))))) (sC (.int 2147483629))))))
noncomputable def F__law_mix : SemF := defF 2 4 B__law_mix
theorem b__law_mix {f : Addr} {cdv : Value} {A : Around} {outer : List Env} {s : Shared} {H : Hp} {E : XK} (T : Top P w K mg base) (hr : Room 0 (A.deeper (envOfC "_law_mix" (defScope s__law_mix) s.heap.objs.size f cdv))) : DSs (bodyX P w K mg base N__law_mix "_law_mix" (defScope s__law_mix) f cdv A outer s H E) (bodyW E) (defBody s__law_mix) B__law_mix := by
  have nd : N__law_mix.Nodup := by decide
  have hu := room_units hr
  have tk := body_takes (P := P) (w := w) (K := K) (mg := mg) (base := base) (N := N__law_mix) (x := "_law_mix") (sc := defScope s__law_mix) (f := f) (cdv := cdv) (A := A) (outer := outer) (s := s) (H := H) (E := E)
  have hp := body_passes (P := P) (w := w) (K := K) (mg := mg) (base := base) (N := N__law_mix) (x := "_law_mix") (sc := defScope s__law_mix) (f := f) (cdv := cdv) (A := A) (outer := outer) (s := s) (H := H) (E := E)
  unfold B__law_mix
  exact (dss_cons (ds_set nd rfl (by first | exact Or.inl rfl | exact Or.inr rfl) (de_mod (de_intc rfl T.b_int (dv_of (de_add (de_add (de_mul de_var de_int) (de_mul de_var de_int)) de_int))) de_int)) (dss_cons (ds_set nd rfl (by first | exact Or.inl rfl | exact Or.inr rfl) (de_mod (de_intc rfl T.b_int (dv_of (de_add (de_add (de_mul de_var de_var) (de_div de_var de_int)) (de_mul de_var de_int)))) de_int)) (dss_one (ds_ret (de_mod (de_intc rfl T.b_int (dv_of (de_add (de_mul de_var de_int) (de_div de_var de_int)))) de_int)))))
theorem sc__law_mix : C8.scC N__law_mix ["number", "turn"] (defScope s__law_mix) = true := by kernel_rfl
theorem fd__law_mix (T : Top P w K mg base) : FdOk P w K mg base 1 "_law_mix" ["number", "turn"] [] F__law_mix := by
  obtain ⟨f, fd, hm, D⟩ := T.f__law_mix
  exact fd_ok D sc__law_mix hm (fun _ _ _ _ _ _ us hl => match us, hl with | [_, _], _ => rfl) fun cdv A outer s H E hr => b__law_mix T hr
def N__law_take : List Str := ["store", "much", "told", "size", "k"]
noncomputable def B__law_take : SS := (qSeq (qIf (c2 (ordD false false) (sVar 1) (sV (sC (.int 2)))) (qRet (sC (.int 0))) qNil) (qSeq (qIf (bAnd (c2 (ordD false false) (sIx (sVar 0) (sC (.int 2))) (sV (sC (.int 2)))) (c2 (ordD false false) (sIx (sVar 0) (sC (.int 5))) (sV (sC (.int 1))))) (qDrop (sCall F__law_refill [] (sCons (sVar 0) sNil))) qNil) (qSeq (qIf (c2 (ordD false true) (sIx (sVar 0) (sC (.int 2))) (sV (sC (.int 1)))) (qSeq (qSet 2 (s2 modD (s1 intD (sV (sIx (sVar 0) (sC (.int 2))))) (sVar 1))) (qSeq (qSetR (s2 divD (sIx (sVar 0) (sC (.int 2))) (sVar 1)) (sVar 0) (sC (.int 2))) (qRet (sVar 2)))) qNil) (qSeq (qSetR (s2 subD (sIx (sVar 0) (sC (.int 5))) (sC (.int 1))) (sVar 0) (sC (.int 5))) (qSeq (qSet 2 (sC (.int 0))) (qSeq (qSet 3 (sC (.int 1))) (qSeq (qFor (sItA r1D (sCons (sC (.int 6)) sNil)) (.nm 4) (qIf (c2 (ordD false false) (sVar 3) (sV (sVar 1))) (qSeq (qSet 2 (s2 addD (s2 mulD (sVar 2) (sC (.int 2147483629))) (sCall F__law_mix [] (sCons (sIx (sVar 0) (sC (.int 4))) (sCons (sIx (sVar 0) (sC (.int 3))) sNil))))) (qSeq (qSet 3 (s2 mulD (sVar 3) (sC (.int 2147483629)))) (qSetR (s2 addD (sIx (sVar 0) (sC (.int 3))) (sC (.int 1))) (sVar 0) (sC (.int 3))))) qNil)) (qRet (s2 modD (s1 intD (sV (sVar 2))) (sVar 1))))))))))
noncomputable def F__law_take : SemF := defF 2 5 B__law_take
theorem b__law_take {f : Addr} {cdv : Value} {A : Around} {outer : List Env} {s : Shared} {H : Hp} {E : XK} (T : Top P w K mg base) (hr : Room 1 (A.deeper (envOfC "_law_take" (defScope s__law_take) s.heap.objs.size f cdv))) : DSs (bodyX P w K mg base N__law_take "_law_take" (defScope s__law_take) f cdv A outer s H E) (bodyW E) (defBody s__law_take) B__law_take := by
  have nd : N__law_take.Nodup := by decide
  have hu := room_units hr
  have tk := body_takes (P := P) (w := w) (K := K) (mg := mg) (base := base) (N := N__law_take) (x := "_law_take") (sc := defScope s__law_take) (f := f) (cdv := cdv) (A := A) (outer := outer) (s := s) (H := H) (E := E)
  have hp := body_passes (P := P) (w := w) (K := K) (mg := mg) (base := base) (N := N__law_take) (x := "_law_take") (sc := defScope s__law_take) (f := f) (cdv := cdv) (A := A) (outer := outer) (s := s) (H := H) (E := E)
  unfold B__law_take
  exact (dss_cons (ds_if (dt_cmp (op_ltP hu) ordD_ok (du_of de_var) (dv_of de_int) (by rfl)) (dss_one (ds_ret de_int)) dss_nil) (dss_cons (ds_if (DW.dt (dw_and (dt_cmp (op_ltP hu) ordD_ok (du_of (de_ix (du_of de_var) de_int)) (dv_of de_int) (by rfl)) (dw_and1 (dt_cmp (op_ltP hu) ordD_ok (du_of (de_ix (du_of de_var) de_int)) (dv_of de_int) (by rfl))))) (dss_one (ds_expr (de_call (fd__law_refill T) (hr.mono (by decide)) tk rfl (da_cons de_var da_nil)))) dss_nil) (dss_cons (ds_if (dt_cmp (op_gtP hu) ordD_ok (du_of (de_ix (du_of de_var) de_int)) (dv_of de_int) (by rfl)) (dss_cons (ds_set nd rfl (by first | exact Or.inl rfl | exact Or.inr rfl) (de_mod (de_intc rfl T.b_int (dv_of (de_ix (du_of de_var) de_int))) de_var)) (dss_cons (ds_setR (de_div (de_ix (du_of de_var) de_int) de_var) de_var de_int) (dss_one (ds_ret de_var)))) dss_nil) (dss_cons (ds_setR (de_sub (de_ix (du_of de_var) de_int) de_int) de_var de_int) (dss_cons (ds_set nd rfl (by first | exact Or.inl rfl | exact Or.inr rfl) de_int) (dss_cons (ds_set nd rfl (by first | exact Or.inl rfl | exact Or.inr rfl) de_int) (dss_cons (ds_for hp rfl (di_r1 rfl T.b_range (da_cons de_int da_nil)) (dg_nm nd rfl (by first | exact Or.inl rfl | exact Or.inr rfl)) (dss_one (ds_if (dt_cmp (op_ltP hu) ordD_ok (du_of de_var) (dv_of de_var) (by rfl)) (dss_cons (ds_set nd rfl (by first | exact Or.inl rfl | exact Or.inr rfl) (de_add (de_mul de_var de_int) (de_call (fd__law_mix T) (hr.mono (by decide)) tk rfl (da_cons (de_ix (du_of de_var) de_int) (da_cons (de_ix (du_of de_var) de_int) da_nil))))) (dss_cons (ds_set nd rfl (by first | exact Or.inl rfl | exact Or.inr rfl) (de_mul de_var de_int)) (dss_one (ds_setR (de_add (de_ix (du_of de_var) de_int) de_int) de_var de_int)))) dss_nil))) (dss_one (ds_ret (de_mod (de_intc rfl T.b_int (dv_of de_var)) de_var))))))))))
theorem sc__law_take : C8.scC N__law_take ["store", "much"] (defScope s__law_take) = true := by kernel_rfl
theorem fd__law_take (T : Top P w K mg base) : FdOk P w K mg base 2 "_law_take" ["store", "much"] [] F__law_take := by
  obtain ⟨f, fd, hm, D⟩ := T.f__law_take
  exact fd_ok D sc__law_take hm (fun _ _ _ _ _ _ us hl => match us, hl with | [_, _], _ => rfl) fun cdv A outer s H E hr => b__law_take T hr
def N__law_pick : List Str := ["store", "things"]
noncomputable def B__law_pick : SS := (qRet (sIx (sVar 1) (sCall F__law_take [] (sCons (sVar 0) (sCons (s1 lenD (sV (sVar 1))) sNil)))))
noncomputable def F__law_pick : SemF := defF 2 2 B__law_pick
theorem b__law_pick {f : Addr} {cdv : Value} {A : Around} {outer : List Env} {s : Shared} {H : Hp} {E : XK} (T : Top P w K mg base) (hr : Room 2 (A.deeper (envOfC "_law_pick" (defScope s__law_pick) s.heap.objs.size f cdv))) : DSs (bodyX P w K mg base N__law_pick "_law_pick" (defScope s__law_pick) f cdv A outer s H E) (bodyW E) (defBody s__law_pick) B__law_pick := by
  have nd : N__law_pick.Nodup := by decide
  have hu := room_units hr
  have tk := body_takes (P := P) (w := w) (K := K) (mg := mg) (base := base) (N := N__law_pick) (x := "_law_pick") (sc := defScope s__law_pick) (f := f) (cdv := cdv) (A := A) (outer := outer) (s := s) (H := H) (E := E)
  have hp := body_passes (P := P) (w := w) (K := K) (mg := mg) (base := base) (N := N__law_pick) (x := "_law_pick") (sc := defScope s__law_pick) (f := f) (cdv := cdv) (A := A) (outer := outer) (s := s) (H := H) (E := E)
  unfold B__law_pick
  exact (dss_one (ds_ret (de_ix (du_of de_var) (de_call (fd__law_take T) (hr.mono (by decide)) tk rfl (da_cons de_var (da_cons (de_len rfl T.b_len (dv_of de_var)) da_nil))))))
theorem sc__law_pick : C8.scC N__law_pick ["store", "things"] (defScope s__law_pick) = true := by kernel_rfl
theorem fd__law_pick (T : Top P w K mg base) : FdOk P w K mg base 3 "_law_pick" ["store", "things"] [] F__law_pick := by
  obtain ⟨f, fd, hm, D⟩ := T.f__law_pick
  exact fd_ok D sc__law_pick hm (fun _ _ _ _ _ _ us hl => match us, hl with | [_, _], _ => rfl) fun cdv A outer s H E hr => b__law_pick T hr
def N__law_same : List Str := ["one", "two", "pairs", "k", "i"]
noncomputable def B__law_same : SS := (qSeq (qSetO 2 (sLst (sCons (sTup (sCons (sVar 0) (sCons (sVar 1) sNil))) sNil))) (qSeq (qFor (sItA r1D (sCons (sC (.int 400000)) sNil)) (.nm 3) (qSeq (qIf (c2 eqD (sOwn 2) (sV (sF (sLst sNil)))) (qRet (sC (.bl true))) qNil) (qSeq (qPop (.tp [(.nm 0), (.nm 1)]) 2) (qIf (bOr (c2 (isNB id) (sVar 0) (sV (sC .non))) (c2 (isNB id) (sVar 1) (sV (sC .non)))) (qIf (bOr (c2 (isNB not) (sVar 0) (sV (sC .non))) (c2 (isNB not) (sVar 1) (sV (sC .non)))) (qRet (sC (.bl false))) qNil) (qIf (bOr (sTst (s1 (isiR "bool") (sVar 0))) (sTst (s1 (isiR "bool") (sVar 1)))) (qIf (bOr (bNot (sTst (s1 (isiR "bool") (sVar 0)))) (bOr (bNot (sTst (s1 (isiR "bool") (sVar 1)))) (c2 neD (sVar 0) (sV (sVar 1))))) (qRet (sC (.bl false))) qNil) (qIf (bOr (sTst (s1 (isiR "int") (sVar 0))) (sTst (s1 (isiR "str") (sVar 0)))) (qSeq (qIf (bOr (c2 neD (s1 (isiR "int") (sVar 0)) (sV (s1 (isiR "int") (sVar 1)))) (c2 neD (s1 (isiR "str") (sVar 0)) (sV (s1 (isiR "str") (sVar 1))))) (qRet (sC (.bl false))) qNil) (qIf (c2 neD (sVar 0) (sV (sVar 1))) (qRet (sC (.bl false))) qNil)) (qIf (bAnd (sTst (s1 (isiR "dict") (sVar 0))) (sTst (s1 (isiR "dict") (sVar 1)))) (qSeq (fun _ _ => .bad) (fun _ _ => .bad)) (qIf (bOr (c2 neD (s1 (isiR "tuple") (sVar 0)) (sV (s1 (isiR "tuple") (sVar 1)))) (c2 neD (s1 (isiR "list") (sVar 0)) (sV (s1 (isiR "list") (sVar 1))))) (qRet (sC (.bl false))) (qIf (bAnd (bNot (sTst (s1 (isiR "tuple") (sVar 0)))) (bNot (sTst (s1 (isiR "list") (sVar 0))))) (qRet (sC (.bl false))) (qIf (c2 neD (s1 lenD (sV (sVar 0))) (sV (s1 lenD (sV (sVar 1))))) (qRet (sC (.bl false))) (qFor (sItA r1D (sCons (s1 lenD (sV (sVar 0))) sNil)) (.nm 4) (qM 2 kApp (sCons (sTup (sCons (sIx (sVar 0) (sVar 4)) (sCons (sIx (sVar 1) (sVar 4)) sNil))) sNil))))))))))))) (qRet (sC (.bl false)))))
noncomputable def F__law_same : SemF := defF 2 5 B__law_same
theorem b__law_same {f : Addr} {cdv : Value} {A : Around} {outer : List Env} {s : Shared} {H : Hp} {E : XK} (T : Top P w K mg base) (hr : Room 0 (A.deeper (envOfC "_law_same" (defScope s__law_same) s.heap.objs.size f cdv))) : DSs (bodyX P w K mg base N__law_same "_law_same" (defScope s__law_same) f cdv A outer s H E) (bodyW E) (defBody s__law_same) B__law_same := by
  have nd : N__law_same.Nodup := by decide
  have hu := room_units hr
  have tk := body_takes (P := P) (w := w) (K := K) (mg := mg) (base := base) (N := N__law_same) (x := "_law_same") (sc := defScope s__law_same) (f := f) (cdv := cdv) (A := A) (outer := outer) (s := s) (H := H) (E := E)
  have hp := body_passes (P := P) (w := w) (K := K) (mg := mg) (base := base) (N := N__law_same) (x := "_law_same") (sc := defScope s__law_same) (f := f) (cdv := cdv) (A := A) (outer := outer) (s := s) (H := H) (E := E)
  unfold B__law_same
  exact (dss_cons (ds_setO nd rfl (by first | exact Or.inl rfl | exact Or.inr rfl) (do_lst (da_cons (de_tup (da_cons de_var (da_cons de_var da_nil))) da_nil))) (dss_cons (ds_for hp rfl (di_r1 rfl T.b_range (da_cons de_int da_nil)) (dg_nm nd rfl (by first | exact Or.inl rfl | exact Or.inr rfl)) (dss_cons (ds_if (dt_cmp (op_eqP hu) eqD_ok du_own (dv_of (de_do (do_lst da_nil))) (by rfl)) (dss_one (ds_ret de_bl)) dss_nil) (dss_cons (ds_pop (dg_tp rfl (dgs_cons (dg_nm nd rfl (by first | exact Or.inl rfl | exact Or.inr rfl)) (dgs_cons (dg_nm nd rfl (by first | exact Or.inl rfl | exact Or.inr rfl)) dgs_nil)))) (dss_one (ds_if (DW.dt (dw_or (dt_cmp op_isN isN_ok (du_of de_var) (dv_of de_non) (by rfl)) (dw_or1 (dt_cmp op_isN isN_ok (du_of de_var) (dv_of de_non) (by rfl))))) (dss_one (ds_if (DW.dt (dw_or (dt_cmp op_notN notN_ok (du_of de_var) (dv_of de_non) (by rfl)) (dw_or1 (dt_cmp op_notN notN_ok (du_of de_var) (dv_of de_non) (by rfl))))) (dss_one (ds_ret de_bl)) dss_nil)) (dss_one (ds_if (DW.dt (dw_or (dt_val (de_isi rfl T.b_isinstance rfl T.b_bool (by kernel_rfl) (du_of de_var))) (dw_or1 (dt_val (de_isi rfl T.b_isinstance rfl T.b_bool (by kernel_rfl) (du_of de_var)))))) (dss_one (ds_if (DW.dt (dw_or (dt_not (dt_val (de_isi rfl T.b_isinstance rfl T.b_bool (by kernel_rfl) (du_of de_var)))) (dw_or (dt_not (dt_val (de_isi rfl T.b_isinstance rfl T.b_bool (by kernel_rfl) (du_of de_var)))) (dw_or1 (dt_cmp (op_neP hu) neD_ok (du_of de_var) (dv_of de_var) (by rfl)))))) (dss_one (ds_ret de_bl)) dss_nil)) (dss_one (ds_if (DW.dt (dw_or (dt_val (de_isi rfl T.b_isinstance rfl T.b_int (by kernel_rfl) (du_of de_var))) (dw_or1 (dt_val (de_isi rfl T.b_isinstance rfl T.b_str (by kernel_rfl) (du_of de_var)))))) (dss_cons (ds_if (DW.dt (dw_or (dt_cmp (op_neP hu) neD_ok (du_of (de_isi rfl T.b_isinstance rfl T.b_int (by kernel_rfl) (du_of de_var))) (dv_of (de_isi rfl T.b_isinstance rfl T.b_int (by kernel_rfl) (du_of de_var))) (by rfl)) (dw_or1 (dt_cmp (op_neP hu) neD_ok (du_of (de_isi rfl T.b_isinstance rfl T.b_str (by kernel_rfl) (du_of de_var))) (dv_of (de_isi rfl T.b_isinstance rfl T.b_str (by kernel_rfl) (du_of de_var))) (by rfl))))) (dss_one (ds_ret de_bl)) dss_nil) (dss_one (ds_if (dt_cmp (op_neP hu) neD_ok (du_of de_var) (dv_of de_var) (by rfl)) (dss_one (ds_ret de_bl)) dss_nil))) (dss_one (ds_if (DW.dt (dw_and (dt_val (de_isi rfl T.b_isinstance rfl T.b_dict (by kernel_rfl) (du_of de_var))) (dw_and1 (dt_val (de_isi rfl T.b_isinstance rfl T.b_dict (by kernel_rfl) (du_of de_var)))))) (dss_cons ds_never (dss_one ds_never)) (dss_one (ds_if (DW.dt (dw_or (dt_cmp (op_neP hu) neD_ok (du_of (de_isi rfl T.b_isinstance rfl T.b_tuple (by kernel_rfl) (du_of de_var))) (dv_of (de_isi rfl T.b_isinstance rfl T.b_tuple (by kernel_rfl) (du_of de_var))) (by rfl)) (dw_or1 (dt_cmp (op_neP hu) neD_ok (du_of (de_isi rfl T.b_isinstance rfl T.b_list (by kernel_rfl) (du_of de_var))) (dv_of (de_isi rfl T.b_isinstance rfl T.b_list (by kernel_rfl) (du_of de_var))) (by rfl))))) (dss_one (ds_ret de_bl)) (dss_one (ds_if (DW.dt (dw_and (dt_not (dt_val (de_isi rfl T.b_isinstance rfl T.b_tuple (by kernel_rfl) (du_of de_var)))) (dw_and1 (dt_not (dt_val (de_isi rfl T.b_isinstance rfl T.b_list (by kernel_rfl) (du_of de_var))))))) (dss_one (ds_ret de_bl)) (dss_one (ds_if (dt_cmp (op_neP hu) neD_ok (du_of (de_len rfl T.b_len (dv_of de_var))) (dv_of (de_len rfl T.b_len (dv_of de_var))) (by rfl)) (dss_one (ds_ret de_bl)) (dss_one (ds_for hp rfl (di_r1 rfl T.b_range (da_cons (de_len rfl T.b_len (dv_of de_var)) da_nil)) (dg_nm nd rfl (by first | exact Or.inl rfl | exact Or.inr rfl)) (dss_one (ds_m F.slot_list_append F.type_list_append mt_append md_app (da_cons (de_tup (da_cons (de_ix (du_of de_var) de_var) (da_cons (de_ix (du_of de_var) de_var) da_nil))) da_nil)))))))))))))))))))))) (dss_one (ds_ret de_bl))))
theorem sc__law_same : C8.scC N__law_same ["one", "two"] (defScope s__law_same) = true := by kernel_rfl
theorem fd__law_same (T : Top P w K mg base) : FdOk P w K mg base 1 "_law_same" ["one", "two"] [] F__law_same := by
  obtain ⟨f, fd, hm, D⟩ := T.f__law_same
  exact fd_ok D sc__law_same hm (fun _ _ _ _ _ _ us hl => match us, hl with | [_, _], _ => rfl) fun cdv A outer s H E hr => b__law_same T hr
def N__law_name : List Str := ["store", "signs", "size", "told", "k", "known"]
noncomputable def B__law_name : SS := (qSeq (qSet 1 (sC (.str "abcdefghijklmnopqrstuvwxyz0123456789"))) (qSeq (qIf (c2 eqD (sCall F__law_take [] (sCons (sVar 0) (sCons (sC (.int 5)) sNil))) (sV (sC (.int 0)))) (qSeq (qSet 5 (sF (sLst (sCons (sC (.str "a")) (sCons (sC (.str "b")) (sCons (sC (.str "h")) (sCons (sC (.str "ab")) (sCons (sC (.str "abcdefgh")) (sCons (sC (.str "new")) (sCons (sC (.str "table")) (sCons (sC (.str "row")) (sCons (sC (.str "choice")) (sCons (sC (.str "list")) (sCons (sC (.str "turned")) (sCons (sC (.str "use")) (sCons (sC (.str "first")) sNil)))))))))))))))) (qSeq (qSet 5 (s2 addD (sVar 5) (sF (sLst (sCons (sC (.str "last")) (sCons (sC (.str "all")) (sCons (sC (.str "is")) (sCons (sC (.str "from")) (sCons (sC (.str "begins")) (sCons (sC (.str "right")) (sCons (sC (.str "wrong")) (sCons (sC (.str "none")) (sCons (sC (.str "some")) (sCons (sC (.str "l1")) (sCons (sC (.str "d0")) (sCons (sC (.str "z9")) sNil)))))))))))))))) (qRet (sCall F__law_pick [] (sCons (sVar 0) (sCons (sVar 5) sNil)))))) qNil) (qSeq (qSet 2 (sIx (sF (sLst (sCons (sC (.int 1)) (sCons (sC (.int 2)) (sCons (sC (.int 3)) (sCons (sC (.int 4)) (sCons (sC (.int 5)) (sCons (sC (.int 6)) (sCons (sC (.int 7)) (sCons (sC (.int 8)) (sCons (sC (.int 1)) (sCons (sC (.int 2)) (sCons (sC (.int 2)) (sCons (sC (.int 3)) sNil)))))))))))))) (sCall F__law_take [] (sCons (sVar 0) (sCons (sC (.int 12)) sNil))))) (qSeq (qSet 3 (sIx (sVar 1) (sCall F__law_take [] (sCons (sVar 0) (sCons (sC (.int 26)) sNil))))) (qSeq (qIf (c2 eqD (sCall F__law_take [] (sCons (sVar 0) (sCons (sC (.int 8)) sNil))) (sV (sC (.int 0)))) (qRet (s2 mulSD (sVar 3) (sVar 2))) qNil) (qSeq (qFor (sItA r1D (sCons (s2 subD (sVar 2) (sC (.int 1))) sNil)) (.nm 4) (qSet 3 (s2 addD (sVar 3) (sIx (sVar 1) (sCall F__law_take [] (sCons (sVar 0) (sCons (sC (.int 36)) sNil))))))) (qRet (sVar 3))))))))
noncomputable def F__law_name : SemF := defF 1 6 B__law_name
theorem b__law_name {f : Addr} {cdv : Value} {A : Around} {outer : List Env} {s : Shared} {H : Hp} {E : XK} (T : Top P w K mg base) (hr : Room 3 (A.deeper (envOfC "_law_name" (defScope s__law_name) s.heap.objs.size f cdv))) : DSs (bodyX P w K mg base N__law_name "_law_name" (defScope s__law_name) f cdv A outer s H E) (bodyW E) (defBody s__law_name) B__law_name := by
  have nd : N__law_name.Nodup := by decide
  have hu := room_units hr
  have tk := body_takes (P := P) (w := w) (K := K) (mg := mg) (base := base) (N := N__law_name) (x := "_law_name") (sc := defScope s__law_name) (f := f) (cdv := cdv) (A := A) (outer := outer) (s := s) (H := H) (E := E)
  have hp := body_passes (P := P) (w := w) (K := K) (mg := mg) (base := base) (N := N__law_name) (x := "_law_name") (sc := defScope s__law_name) (f := f) (cdv := cdv) (A := A) (outer := outer) (s := s) (H := H) (E := E)
  unfold B__law_name
  exact (dss_cons (ds_set nd rfl (by first | exact Or.inl rfl | exact Or.inr rfl) de_str) (dss_cons (ds_if (dt_cmp (op_eqP hu) eqD_ok (du_of (de_call (fd__law_take T) (hr.mono (by decide)) tk rfl (da_cons de_var (da_cons de_int da_nil)))) (dv_of de_int) (by rfl)) (dss_cons (ds_set nd rfl (by first | exact Or.inl rfl | exact Or.inr rfl) (de_do (do_lst (da_cons de_str (da_cons de_str (da_cons de_str (da_cons de_str (da_cons de_str (da_cons de_str (da_cons de_str (da_cons de_str (da_cons de_str (da_cons de_str (da_cons de_str (da_cons de_str (da_cons de_str da_nil)))))))))))))))) (dss_cons (ds_set nd rfl (by first | exact Or.inl rfl | exact Or.inr rfl) (de_add de_var (de_do (do_lst (da_cons de_str (da_cons de_str (da_cons de_str (da_cons de_str (da_cons de_str (da_cons de_str (da_cons de_str (da_cons de_str (da_cons de_str (da_cons de_str (da_cons de_str (da_cons de_str da_nil)))))))))))))))) (dss_one (ds_ret (de_call (fd__law_pick T) (hr.mono (by decide)) tk rfl (da_cons de_var (da_cons de_var da_nil))))))) dss_nil) (dss_cons (ds_set nd rfl (by first | exact Or.inl rfl | exact Or.inr rfl) (de_ix (du_of (de_do (do_lst (da_cons de_int (da_cons de_int (da_cons de_int (da_cons de_int (da_cons de_int (da_cons de_int (da_cons de_int (da_cons de_int (da_cons de_int (da_cons de_int (da_cons de_int (da_cons de_int da_nil))))))))))))))) (de_call (fd__law_take T) (hr.mono (by decide)) tk rfl (da_cons de_var (da_cons de_int da_nil))))) (dss_cons (ds_set nd rfl (by first | exact Or.inl rfl | exact Or.inr rfl) (de_ix (du_of de_var) (de_call (fd__law_take T) (hr.mono (by decide)) tk rfl (da_cons de_var (da_cons de_int da_nil))))) (dss_cons (ds_if (dt_cmp (op_eqP hu) eqD_ok (du_of (de_call (fd__law_take T) (hr.mono (by decide)) tk rfl (da_cons de_var (da_cons de_int da_nil)))) (dv_of de_int) (by rfl)) (dss_one (ds_ret (de_mulS de_var de_var))) dss_nil) (dss_cons (ds_for hp rfl (di_r1 rfl T.b_range (da_cons (de_sub de_var de_int) da_nil)) (dg_nm nd rfl (by first | exact Or.inl rfl | exact Or.inr rfl)) (dss_one (ds_set nd rfl (by first | exact Or.inl rfl | exact Or.inr rfl) (de_add de_var (de_ix (du_of de_var) (de_call (fd__law_take T) (hr.mono (by decide)) tk rfl (da_cons de_var (da_cons de_int da_nil)))))))) (dss_one (ds_ret de_var))))))))
theorem sc__law_name : C8.scC N__law_name ["store"] (defScope s__law_name) = true := by kernel_rfl
theorem fd__law_name (T : Top P w K mg base) : FdOk P w K mg base 4 "_law_name" ["store"] [] F__law_name := by
  obtain ⟨f, fd, hm, D⟩ := T.f__law_name
  exact fd_ok D sc__law_name hm (fun _ _ _ _ _ _ us hl => match us, hl with | [_], _ => rfl) fun cdv A outer s H E hr => b__law_name T hr
def N__law_unlike_name : List Str := ["name", "names", "k"]
noncomputable def B__law_unlike_name : SS := (qSeq (qIf (c2 (inB not) (sVar 0) (sV (sVar 1))) (qRet (sVar 0)) qNil) (qSeq (qFor (sItA r1D (sCons (s2 addD (s1 lenD (sV (sVar 1))) (sC (.int 1))) sNil)) (.nm 2) (qIf (c2 (inB not) (s2 addD (sSl (sVar 0) pNone (pSome (sC (.int 6)))) (s1 strD (sV (sVar 2)))) (sV (sVar 1))) (qRet (s2 addD (sSl (sVar 0) pNone (pSome (sC (.int 6)))) (s1 strD (sV (sVar 2))))) qNil)) (qRet (sVar 0))))
noncomputable def F__law_unlike_name : SemF := defF 2 3 B__law_unlike_name
theorem b__law_unlike_name {f : Addr} {cdv : Value} {A : Around} {outer : List Env} {s : Shared} {H : Hp} {E : XK} (T : Top P w K mg base) (hr : Room 0 (A.deeper (envOfC "_law_unlike_name" (defScope s__law_unlike_name) s.heap.objs.size f cdv))) : DSs (bodyX P w K mg base N__law_unlike_name "_law_unlike_name" (defScope s__law_unlike_name) f cdv A outer s H E) (bodyW E) (defBody s__law_unlike_name) B__law_unlike_name := by
  have nd : N__law_unlike_name.Nodup := by decide
  have hu := room_units hr
  have tk := body_takes (P := P) (w := w) (K := K) (mg := mg) (base := base) (N := N__law_unlike_name) (x := "_law_unlike_name") (sc := defScope s__law_unlike_name) (f := f) (cdv := cdv) (A := A) (outer := outer) (s := s) (H := H) (E := E)
  have hp := body_passes (P := P) (w := w) (K := K) (mg := mg) (base := base) (N := N__law_unlike_name) (x := "_law_unlike_name") (sc := defScope s__law_unlike_name) (f := f) (cdv := cdv) (A := A) (outer := outer) (s := s) (H := H) (E := E)
  unfold B__law_unlike_name
  exact (dss_cons (ds_if (dt_cmp (op_notInP hu) inB_ok (du_of de_var) (dv_of de_var) (by rfl)) (dss_one (ds_ret de_var)) dss_nil) (dss_cons (ds_for hp rfl (di_r1 rfl T.b_range (da_cons (de_add (de_len rfl T.b_len (dv_of de_var)) de_int) da_nil)) (dg_nm nd rfl (by first | exact Or.inl rfl | exact Or.inr rfl)) (dss_one (ds_if (dt_cmp (op_notInP hu) inB_ok (du_of (de_add (de_sl (du_of de_var) dp_none (dp_some de_int)) (de_strc rfl T.b_str (dv_of de_var)))) (dv_of de_var) (by rfl)) (dss_one (ds_ret (de_add (de_sl (du_of de_var) dp_none (dp_some de_int)) (de_strc rfl T.b_str (dv_of de_var))))) dss_nil))) (dss_one (ds_ret de_var))))
theorem sc__law_unlike_name : C8.scC N__law_unlike_name ["name", "names"] (defScope s__law_unlike_name) = true := by kernel_rfl
theorem fd__law_unlike_name (T : Top P w K mg base) : FdOk P w K mg base 1 "_law_unlike_name" ["name", "names"] [] F__law_unlike_name := by
  obtain ⟨f, fd, hm, D⟩ := T.f__law_unlike_name
  exact fd_ok D sc__law_unlike_name hm (fun _ _ _ _ _ _ us hl => match us, hl with | [_, _], _ => rfl) fun cdv A outer s H E hr => b__law_unlike_name T hr
def N__law_pool_names : List Str := ["store", "much", "pool", "names", "k", "name"]
noncomputable def B__law_pool_names : SS := (qSeq (qSet 3 (sNew (sLst sNil))) (qSeq (qFor (sItA r1D (sCons (sVar 1) sNil)) (.nm 4) (qSeq (qSet 5 (sCall F__law_name [] (sCons (sVar 0) sNil))) (qSeq (qIf (bAnd (c2 neR (sVar 2) (sV (sF (sLst sNil)))) (c2 eqD (sCall F__law_take [] (sCons (sVar 0) (sCons (sC (.int 3)) sNil))) (sV (sC (.int 0))))) (qSet 5 (sCall F__law_pick [] (sCons (sVar 0) (sCons (sVar 2) sNil)))) qNil) (qDrop (sM kApp (sVar 3) (sCons (sCall F__law_unlike_name [] (sCons (sVar 5) (sCons (sVar 3) sNil))) sNil)))))) (qSeq (qDrop (sExtV (sVar 2) (sV (sVar 3)))) (qRet (sVar 3)))))
noncomputable def F__law_pool_names : SemF := defF 3 6 B__law_pool_names
theorem b__law_pool_names {f : Addr} {cdv : Value} {A : Around} {outer : List Env} {s : Shared} {H : Hp} {E : XK} (T : Top P w K mg base) (hr : Room 4 (A.deeper (envOfC "_law_pool_names" (defScope s__law_pool_names) s.heap.objs.size f cdv))) : DSs (bodyX P w K mg base N__law_pool_names "_law_pool_names" (defScope s__law_pool_names) f cdv A outer s H E) (bodyW E) (defBody s__law_pool_names) B__law_pool_names := by
  have nd : N__law_pool_names.Nodup := by decide
  have hu := room_units hr
  have tk := body_takes (P := P) (w := w) (K := K) (mg := mg) (base := base) (N := N__law_pool_names) (x := "_law_pool_names") (sc := defScope s__law_pool_names) (f := f) (cdv := cdv) (A := A) (outer := outer) (s := s) (H := H) (E := E)
  have hp := body_passes (P := P) (w := w) (K := K) (mg := mg) (base := base) (N := N__law_pool_names) (x := "_law_pool_names") (sc := defScope s__law_pool_names) (f := f) (cdv := cdv) (A := A) (outer := outer) (s := s) (H := H) (E := E)
  unfold B__law_pool_names
  exact (dss_cons (ds_set nd rfl (by first | exact Or.inl rfl | exact Or.inr rfl) (de_new (do_lst da_nil))) (dss_cons (ds_for hp rfl (di_r1 rfl T.b_range (da_cons de_var da_nil)) (dg_nm nd rfl (by first | exact Or.inl rfl | exact Or.inr rfl)) (dss_cons (ds_set nd rfl (by first | exact Or.inl rfl | exact Or.inr rfl) (de_call (fd__law_name T) (hr.mono (by decide)) tk rfl (da_cons de_var da_nil))) (dss_cons (ds_if (DW.dt (dw_and (dt_cmp (op_neP hu) neR_ok (du_of de_var) (dv_of (de_do (do_lst da_nil))) (by rfl)) (dw_and1 (dt_cmp (op_eqP hu) eqD_ok (du_of (de_call (fd__law_take T) (hr.mono (by decide)) tk rfl (da_cons de_var (da_cons de_int da_nil)))) (dv_of de_int) (by rfl))))) (dss_one (ds_set nd rfl (by first | exact Or.inl rfl | exact Or.inr rfl) (de_call (fd__law_pick T) (hr.mono (by decide)) tk rfl (da_cons de_var (da_cons de_var da_nil))))) dss_nil) (dss_one (ds_expr (de_m F.slot_list_append F.type_list_append mt_append md_app de_var (da_cons (de_call (fd__law_unlike_name T) (hr.mono (by decide)) tk rfl (da_cons de_var (da_cons de_var da_nil))) da_nil))))))) (dss_cons (ds_expr (de_extV de_var (dv_of de_var))) (dss_one (ds_ret de_var)))))
theorem sc__law_pool_names : C8.scC N__law_pool_names ["store", "much", "pool"] (defScope s__law_pool_names) = true := by kernel_rfl
theorem fd__law_pool_names (T : Top P w K mg base) : FdOk P w K mg base 5 "_law_pool_names" ["store", "much", "pool"] [] F__law_pool_names := by
  obtain ⟨f, fd, hm, D⟩ := T.f__law_pool_names
  exact fd_ok D sc__law_pool_names hm (fun _ _ _ _ _ _ us hl => match us, hl with | [_, _, _], _ => rfl) fun cdv A outer s H E hr => b__law_pool_names T hr
def N__law_split_words : List Str := ["store", "much", "signs", "words", "k", "word", "low", "high", "stem", "one"]
noncomputable def B__law_split_words : SS := (qSeq (qSetO 3 (sLst (sCons (sC (.str "")) sNil))) (qSeq (qFor (sItA r1D (sCons (s2 subD (sVar 1) (sC (.int 1))) sNil)) (.nm 4) (qSeq (qSet 5 (sCall F__law_pick [] (sCons (sVar 0) (sCons (sF (sLc (sItO 3) (.nm 9) (c2 (ordD false false) (s1 lenD (sV (sVar 9))) (sV (sC (.int 4)))) (sVar 9) [9])) sNil)))) (qSeq (qM 3 kRem (sCons (sVar 5) sNil)) (qSeq (qSet 6 (sCall F__law_take [] (sCons (sVar 0) (sCons (s2 subD (s1 lenD (sV (sVar 2))) (sC (.int 1))) sNil)))) (qSeq (qSet 7 (s2 addD (s2 addD (sVar 6) (sC (.int 1))) (sCall F__law_take [] (sCons (sVar 0) (sCons (s2 subD (s2 subD (s1 lenD (sV (sVar 2))) (sC (.int 1))) (sVar 6)) sNil))))) (qSeq (qM 3 kApp (sCons (s2 addD (sVar 5) (sIx (sVar 2) (sVar 6))) sNil)) (qM 3 kApp (sCons (s2 addD (sVar 5) (sIx (sVar 2) (sVar 7))) sNil)))))))) (qSeq (qIf (c2 eqD (sCall F__law_take [] (sCons (sVar 0) (sCons (sC (.int 3)) sNil))) (sV (sC (.int 0)))) (qSeq (qSet 8 (sCall F__law_pick [] (sCons (sVar 0) (sCons (sVar 2) sNil)))) (qSetO 3 (sLc (sItO 3) (.nm 5) bYes (s2 addD (sVar 8) (sVar 5)) [5]))) qNil) (qRetO (s1O sortD (sOwn 3))))))
noncomputable def F__law_split_words : SemF := defF 3 10 B__law_split_words
theorem b__law_split_words {f : Addr} {cdv : Value} {A : Around} {outer : List Env} {s : Shared} {H : Hp} {E : XK} (T : Top P w K mg base) (hr : Room 3 (A.deeper (envOfC "_law_split_words" (defScope s__law_split_words) s.heap.objs.size f cdv))) : DSs (bodyX P w K mg base N__law_split_words "_law_split_words" (defScope s__law_split_words) f cdv A outer s H E) (bodyW E) (defBody s__law_split_words) B__law_split_words := by
  have nd : N__law_split_words.Nodup := by decide
  have hu := room_units hr
  have tk := body_takes (P := P) (w := w) (K := K) (mg := mg) (base := base) (N := N__law_split_words) (x := "_law_split_words") (sc := defScope s__law_split_words) (f := f) (cdv := cdv) (A := A) (outer := outer) (s := s) (H := H) (E := E)
  have hp := body_passes (P := P) (w := w) (K := K) (mg := mg) (base := base) (N := N__law_split_words) (x := "_law_split_words") (sc := defScope s__law_split_words) (f := f) (cdv := cdv) (A := A) (outer := outer) (s := s) (H := H) (E := E)
  unfold B__law_split_words
  exact (dss_cons (ds_setO nd rfl (by first | exact Or.inl rfl | exact Or.inr rfl) (do_lst (da_cons de_str da_nil))) (dss_cons (ds_for hp rfl (di_r1 rfl T.b_range (da_cons (de_sub de_var de_int) da_nil)) (dg_nm nd rfl (by first | exact Or.inl rfl | exact Or.inr rfl)) (dss_cons (ds_set nd rfl (by first | exact Or.inl rfl | exact Or.inr rfl) (de_call (fd__law_pick T) (hr.mono (by decide)) tk rfl (da_cons de_var (da_cons (de_do (do_lc (own := [("one", 9)]) rfl nd dj_own (by first | rfl | kernel_rfl) (fun _ _ _ _ _ => (dg_nm nd rfl (by first | exact Or.inl rfl | exact Or.inr rfl))) (fun _ _ _ _ _ => (dts_one (dt_cmp (op_ltP hu) ordD_ok (du_of (de_len rfl T.b_len (dv_of de_var))) (dv_of de_int) (by rfl)))) (fun _ _ _ _ _ => de_var))) da_nil)))) (dss_cons (ds_m F.slot_list_remove F.type_list_remove mt_remS md_rem (da_cons de_var da_nil)) (dss_cons (ds_set nd rfl (by first | exact Or.inl rfl | exact Or.inr rfl) (de_call (fd__law_take T) (hr.mono (by decide)) tk rfl (da_cons de_var (da_cons (de_sub (de_len rfl T.b_len (dv_of de_var)) de_int) da_nil)))) (dss_cons (ds_set nd rfl (by first | exact Or.inl rfl | exact Or.inr rfl) (de_add (de_add de_var de_int) (de_call (fd__law_take T) (hr.mono (by decide)) tk rfl (da_cons de_var (da_cons (de_sub (de_sub (de_len rfl T.b_len (dv_of de_var)) de_int) de_var) da_nil))))) (dss_cons (ds_m F.slot_list_append F.type_list_append mt_append md_app (da_cons (de_add de_var (de_ix (du_of de_var) de_var)) da_nil)) (dss_one (ds_m F.slot_list_append F.type_list_append mt_append md_app (da_cons (de_add de_var (de_ix (du_of de_var) de_var)) da_nil))))))))) (dss_cons (ds_if (dt_cmp (op_eqP hu) eqD_ok (du_of (de_call (fd__law_take T) (hr.mono (by decide)) tk rfl (da_cons de_var (da_cons de_int da_nil)))) (dv_of de_int) (by rfl)) (dss_cons (ds_set nd rfl (by first | exact Or.inl rfl | exact Or.inr rfl) (de_call (fd__law_pick T) (hr.mono (by decide)) tk rfl (da_cons de_var (da_cons de_var da_nil)))) (dss_one (ds_setLcO (own := [("word", 5)]) rfl nd rfl rfl (sw_true rfl rfl rfl rfl) dj_own (by first | rfl | kernel_rfl) (fun _ _ _ _ _ => (dg_nm nd rfl (by first | exact Or.inl rfl | exact Or.inr rfl))) (fun _ _ _ _ _ => dts_nil) (fun _ _ _ _ _ => (de_add de_var de_var))))) dss_nil) (dss_one (ds_retO (do_sorted rfl T.b_sorted dv_own))))))
theorem sc__law_split_words : C8.scC N__law_split_words ["store", "much", "signs"] (defScope s__law_split_words) = true := by kernel_rfl
theorem fd__law_split_words (T : Top P w K mg base) : FdOk P w K mg base 4 "_law_split_words" ["store", "much", "signs"] [] F__law_split_words := by
  obtain ⟨f, fd, hm, D⟩ := T.f__law_split_words
  exact fd_ok D sc__law_split_words hm (fun _ _ _ _ _ _ us hl => match us, hl with | [_, _, _], _ => rfl) fun cdv A outer s H E hr => b__law_split_words T hr
def N__law_odd_word : List Str := ["store", "pen", "words", "k"]
noncomputable def B__law_odd_word : SS := (qSeq (qIf (c2 eqD (sCall F__law_take [] (sCons (sVar 0) (sCons (sC (.int 4)) sNil))) (sV (sC (.int 0)))) (qRet (sCall F__law_pick [] (sCons (sVar 0) (sCons (sVar 2) sNil)))) qNil) (qRet (sJoin (sC (.str "")) (sV (sF (sLc (sItA r1D (sCons (sCall F__law_take [] (sCons (sVar 0) (sCons (s2 addD (sIx (sVar 1) (sC (.int 3))) (sC (.int 1))) sNil))) sNil)) (.nm 3) bYes (sCall F__law_pick [] (sCons (sVar 0) (sCons (sIx (sVar 1) (sC (.int 2))) sNil))) [3]))))))
noncomputable def F__law_odd_word : SemF := defF 3 4 B__law_odd_word
theorem b__law_odd_word {f : Addr} {cdv : Value} {A : Around} {outer : List Env} {s : Shared} {H : Hp} {E : XK} (T : Top P w K mg base) (hr : Room 3 (A.deeper (envOfC "_law_odd_word" (defScope s__law_odd_word) s.heap.objs.size f cdv))) : DSs (bodyX P w K mg base N__law_odd_word "_law_odd_word" (defScope s__law_odd_word) f cdv A outer s H E) (bodyW E) (defBody s__law_odd_word) B__law_odd_word := by
  have nd : N__law_odd_word.Nodup := by decide
  have hu := room_units hr
  have tk := body_takes (P := P) (w := w) (K := K) (mg := mg) (base := base) (N := N__law_odd_word) (x := "_law_odd_word") (sc := defScope s__law_odd_word) (f := f) (cdv := cdv) (A := A) (outer := outer) (s := s) (H := H) (E := E)
  have hp := body_passes (P := P) (w := w) (K := K) (mg := mg) (base := base) (N := N__law_odd_word) (x := "_law_odd_word") (sc := defScope s__law_odd_word) (f := f) (cdv := cdv) (A := A) (outer := outer) (s := s) (H := H) (E := E)
  unfold B__law_odd_word
  exact (dss_cons (ds_if (dt_cmp (op_eqP hu) eqD_ok (du_of (de_call (fd__law_take T) (hr.mono (by decide)) tk rfl (da_cons de_var (da_cons de_int da_nil)))) (dv_of de_int) (by rfl)) (dss_one (ds_ret (de_call (fd__law_pick T) (hr.mono (by decide)) tk rfl (da_cons de_var (da_cons de_var da_nil))))) dss_nil) (dss_one (ds_ret (de_join de_str (dv_of (de_do (do_lc (own := [("k", 3)]) rfl nd (DI.dj (di_r1 rfl T.b_range (da_cons (de_call (fd__law_take T) (hr.mono (by decide)) tk rfl (da_cons de_var (da_cons (de_add (de_ix (du_of de_var) de_int) de_int) da_nil))) da_nil))) (by first | rfl | kernel_rfl) (fun _ _ _ _ _ => (dg_nm nd rfl (by first | exact Or.inl rfl | exact Or.inr rfl))) (fun _ _ _ _ _ => dts_nil) (fun _ _ _ _ _ => (de_call (fd__law_pick T) (hr.mono (by decide)) tk0 rfl (da_cons de_var (da_cons (de_ix (du_of de_var) de_int) da_nil)))))))))))
theorem sc__law_odd_word : C8.scC N__law_odd_word ["store", "pen", "words"] (defScope s__law_odd_word) = true := by kernel_rfl
theorem fd__law_odd_word (T : Top P w K mg base) : FdOk P w K mg base 4 "_law_odd_word" ["store", "pen", "words"] [] F__law_odd_word := by
  obtain ⟨f, fd, hm, D⟩ := T.f__law_odd_word
  exact fd_ok D sc__law_odd_word hm (fun _ _ _ _ _ _ us hl => match us, hl with | [_, _, _], _ => rfl) fun cdv A outer s H E hr => b__law_odd_word T hr
def N__law_branch_words : List Str := ["store", "pen", "much", "up", "words", "k"]
noncomputable def B__law_branch_words : SS := (qSeq (qSet 4 (sNew (sCallO F__law_split_words [] (sCons (sVar 0) (sCons (sVar 2) (sCons (sIx (sVar 1) (sC (.int 2))) sNil)))))) (qSeq (qIf (bNot (sTst (sVar 3))) (qSet 4 (sNew (sRevO (sVar 4)))) qNil) (qSeq (qFor (sItA r1D (sCons (sVar 2) sNil)) (.nm 5) (qIf (bOr (c2 eqD (sIx (sVar 1) (sC (.int 4))) (sV (sC (.int 1)))) (bAnd (c2 eqD (sIx (sVar 1) (sC (.int 4))) (sV (sC (.int 2)))) (c2 eqD (sCall F__law_take [] (sCons (sVar 0) (sCons (sC (.int 6)) sNil))) (sV (sC (.int 0)))))) (qSetR (sCall F__law_odd_word [] (sCons (sVar 0) (sCons (sVar 1) (sCons (sVar 4) sNil)))) (sVar 4) (sVar 5)) qNil)) (qSeq (qFor (sItA r1D (sCons (sVar 2) sNil)) (.nm 5) (qIf (c2 (ordD false true) (s1 lenD (sV (sJoin (sC (.str "")) (sV (sVar 4))))) (sV (sIx (sVar 1) (sC (.int 1))))) (qSet 4 (sNew (sSlO (sVar 4) pNone (pSome (s1 negD (sC (.int 1))))))) qNil)) (qSeq (qIf (c2 eqR (sVar 4) (sV (sF (sLst sNil)))) (qSet 4 (sNew (sLst (sCons (sC (.str "")) sNil)))) qNil) (qSeq (qSetR (s2 subD (sIx (sVar 1) (sC (.int 1))) (s1 lenD (sV (sJoin (sC (.str "")) (sV (sVar 4)))))) (sVar 1) (sC (.int 1))) (qRet (sVar 4))))))))
noncomputable def F__law_branch_words : SemF := defF 4 6 B__law_branch_words
theorem b__law_branch_words {f : Addr} {cdv : Value} {A : Around} {outer : List Env} {s : Shared} {H : Hp} {E : XK} (T : Top P w K mg base) (hr : Room 4 (A.deeper (envOfC "_law_branch_words" (defScope s__law_branch_words) s.heap.objs.size f cdv))) : DSs (bodyX P w K mg base N__law_branch_words "_law_branch_words" (defScope s__law_branch_words) f cdv A outer s H E) (bodyW E) (defBody s__law_branch_words) B__law_branch_words := by
  have nd : N__law_branch_words.Nodup := by decide
  have hu := room_units hr
  have tk := body_takes (P := P) (w := w) (K := K) (mg := mg) (base := base) (N := N__law_branch_words) (x := "_law_branch_words") (sc := defScope s__law_branch_words) (f := f) (cdv := cdv) (A := A) (outer := outer) (s := s) (H := H) (E := E)
  have hp := body_passes (P := P) (w := w) (K := K) (mg := mg) (base := base) (N := N__law_branch_words) (x := "_law_branch_words") (sc := defScope s__law_branch_words) (f := f) (cdv := cdv) (A := A) (outer := outer) (s := s) (H := H) (E := E)
  unfold B__law_branch_words
  exact (dss_cons (ds_set nd rfl (by first | exact Or.inl rfl | exact Or.inr rfl) (de_new (do_call (fd__law_split_words T) (hr.mono (by decide)) tk rfl (da_cons de_var (da_cons de_var (da_cons (de_ix (du_of de_var) de_int) da_nil)))))) (dss_cons (ds_if (dt_not (dt_val de_var)) (dss_one (ds_set nd rfl (by first | exact Or.inl rfl | exact Or.inr rfl) (de_new (do_rev (du_of de_var))))) dss_nil) (dss_cons (ds_for hp rfl (di_r1 rfl T.b_range (da_cons de_var da_nil)) (dg_nm nd rfl (by first | exact Or.inl rfl | exact Or.inr rfl)) (dss_one (ds_if (DW.dt (dw_or (dt_cmp (op_eqP hu) eqD_ok (du_of (de_ix (du_of de_var) de_int)) (dv_of de_int) (by rfl)) (dw_or1 (DW.dt (dw_and (dt_cmp (op_eqP hu) eqD_ok (du_of (de_ix (du_of de_var) de_int)) (dv_of de_int) (by rfl)) (dw_and1 (dt_cmp (op_eqP hu) eqD_ok (du_of (de_call (fd__law_take T) (hr.mono (by decide)) tk rfl (da_cons de_var (da_cons de_int da_nil)))) (dv_of de_int) (by rfl)))))))) (dss_one (ds_setR (de_call (fd__law_odd_word T) (hr.mono (by decide)) tk rfl (da_cons de_var (da_cons de_var (da_cons de_var da_nil)))) de_var de_var)) dss_nil))) (dss_cons (ds_for hp rfl (di_r1 rfl T.b_range (da_cons de_var da_nil)) (dg_nm nd rfl (by first | exact Or.inl rfl | exact Or.inr rfl)) (dss_one (ds_if (dt_cmp (op_gtP hu) ordD_ok (du_of (de_len rfl T.b_len (dv_of (de_join de_str (dv_of de_var))))) (dv_of (de_ix (du_of de_var) de_int)) (by rfl)) (dss_one (ds_set nd rfl (by first | exact Or.inl rfl | exact Or.inr rfl) (de_new (do_sl (du_of de_var) dp_none (dp_some (de_neg de_int)))))) dss_nil))) (dss_cons (ds_if (dt_cmp (op_eqP hu) eqR_ok (du_of de_var) (dv_of (de_do (do_lst da_nil))) (by rfl)) (dss_one (ds_set nd rfl (by first | exact Or.inl rfl | exact Or.inr rfl) (de_new (do_lst (da_cons de_str da_nil))))) dss_nil) (dss_cons (ds_setR (de_sub (de_ix (du_of de_var) de_int) (de_len rfl T.b_len (dv_of (de_join de_str (dv_of de_var))))) de_var de_int) (dss_one (ds_ret de_var))))))))
theorem sc__law_branch_words : C8.scC N__law_branch_words ["store", "pen", "much", "up"] (defScope s__law_branch_words) = true := by kernel_rfl
theorem fd__law_branch_words (T : Top P w K mg base) : FdOk P w K mg base 5 "_law_branch_words" ["store", "pen", "much", "up"] [] F__law_branch_words := by
  obtain ⟨f, fd, hm, D⟩ := T.f__law_branch_words
  exact fd_ok D sc__law_branch_words hm (fun _ _ _ _ _ _ us hl => match us, hl with | [_, _, _, _], _ => rfl) fun cdv A outer s H E hr => b__law_branch_words T hr
def N__law_some_kind : List Str := ["store", "pen", "deep", "up", "sort", "much", "words", "parts", "tags", "names", "side_word", "word", "k"]
noncomputable def B__law_some_kind (FR : SemF) : SS := (qSeq (qSet 4 (sIf (c2 (ordD false true) (sIx (sVar 1) (sC (.int 0))) (sV (sC (.int 0)))) (sCall F__law_pick [] (sCons (sVar 0) (sCons (sC (.str "trrccllu")) sNil))) (sC (.str "t")))) (qSeq (qIf (bAnd (c2 eqD (sVar 4) (sV (sC (.str "l")))) (bOr (c2 (ordD false false) (sVar 2) (sV (sC (.int 1)))) (c2 (ordD false false) (sIx (sVar 1) (sC (.int 1))) (sV (sC (.int 6)))))) (qSet 4 (sC (.str "t"))) qNil) (qSeq (qIf (c2 eqD (sVar 4) (sV (sC (.str "t")))) (qSeq (qIf (c2 eqD (sCall F__law_take [] (sCons (sVar 0) (sCons (sC (.int 8)) sNil))) (sV (sC (.int 0)))) (qRet (sTup (sCons (sC (.str "row")) (sCons (sTup sNil) sNil)))) qNil) (qSeq (qSet 6 (sCall F__law_branch_words [] (sCons (sVar 0) (sCons (sVar 1) (sCons (sCall F__law_pick [] (sCons (sVar 0) (sCons (sF (sLst (sCons (sC (.int 1)) (sCons (sC (.int 2)) (sCons (sC (.int 2)) (sCons (sC (.int 2)) (sCons (sC (.int 3)) (sCons (sC (.int 3)) (sCons (sC (.int 4)) (sCons (sC (.int 5)) (sCons (sC (.int 7)) (sCons (sC (.int 10)) sNil)))))))))))) sNil))) (sCons (sVar 3) sNil)))))) (qSeq (qSet 9 (sCall F__law_pool_names [] (sCons (sVar 0) (sCons (s1 lenD (sV (sVar 6))) (sCons (sIx (sVar 1) (sC (.int 5))) sNil))))) (qRet (sTup (sCons (sC (.str "table")) (sCons (s1 tupOfD (sV (sF (sLc (sItA r1D (sCons (s1 lenD (sV (sVar 6))) sNil)) (.nm 12) bYes (sTup (sCons (sIx (sVar 9) (sVar 12)) (sCons (sIx (sVar 6) (sVar 12)) sNil))) [12])))) sNil))))))) qNil) (qSeq (qIf (c2 eqD (sVar 4) (sV (sC (.str "u")))) (qSeq (qSetR (s2 subD (sIx (sVar 1) (sC (.int 0))) (sC (.int 1))) (sVar 1) (sC (.int 0))) (qRet (sTup (sCons (sC (.str "turned")) (sCons (sCall FR [] (sCons (sVar 0) (sCons (sVar 1) (sCons (sVar 2) (sCons (vNot (sVar 3)) sNil))))) sNil))))) qNil) (qSeq (qIf (c2 eqD (sVar 4) (sV (sC (.str "l")))) (qSeq (qSetR (s2 subD (sIx (sVar 1) (sC (.int 0))) (sC (.int 1))) (sVar 1) (sC (.int 0))) (qSeq (qSet 10 (sCall F__law_pick [] (sCons (sVar 0) (sCons (sF (sLst (sCons (sC (.str "first")) (sCons (sC (.str "last")) sNil)))) sNil)))) (qSeq (qSet 6 (sCall F__law_branch_words [] (sCons (sVar 0) (sCons (sVar 1) (sCons (sC (.int 2)) (sCons (sB (c2 eqD (sB (c2 eqD (sVar 10) (sV (sC (.str "first"))))) (sV (sVar 3)))) sNil)))))) (qRet (sTup (sCons (sC (.str "list")) (sCons (sIx (sVar 6) (sC (.int 1))) (sCons (sIx (sVar 6) (sC (.int 0))) (sCons (sVar 10) (sCons (sCall FR [] (sCons (sVar 0) (sCons (sVar 1) (sCons (s2 subD (sVar 2) (sC (.int 1))) (sCons (sVar 3) sNil))))) sNil)))))))))) qNil) (qSeq (qSet 5 (s2 minD (sIx (sVar 1) (sC (.int 0))) (sCall F__law_pick [] (sCons (sVar 0) (sCons (sF (sLst (sCons (sC (.int 1)) (sCons (sC (.int 2)) (sCons (sC (.int 2)) (sCons (sC (.int 3)) (sCons (sC (.int 3)) (sCons (sC (.int 4)) (sCons (sC (.int 6)) sNil))))))))) sNil))))) (qSeq (qSet 6 (s2 mulD (sF (sLst (sCons (sC (.str "")) sNil))) (sVar 5))) (qSeq (qIf (c2 eqD (sVar 4) (sV (sC (.str "c")))) (qSet 6 (sCall F__law_branch_words [] (sCons (sVar 0) (sCons (sVar 1) (sCons (sVar 5) (sCons (sVar 3) sNil)))))) qNil) (qSeq (qSetR (s2 subD (sIx (sVar 1) (sC (.int 0))) (s1 lenD (sV (sVar 6)))) (sVar 1) (sC (.int 0))) (qSeq (qSet 7 (sF (sLc (sIt (sVar 6)) (.nm 11) bYes (sCall FR [] (sCons (sVar 0) (sCons (sVar 1) (sCons (sVar 2) (sCons (sVar 3) sNil))))) [11]))) (qSeq (qIf (c2 eqD (sVar 4) (sV (sC (.str "r")))) (qRet (sTup (sCons (sC (.str "row")) (sCons (s1 tupOfD (sV (sVar 7))) sNil)))) qNil) (qSeq (qSet 8 (sCall F__law_pool_names [] (sCons (sVar 0) (sCons (s1 lenD (sV (sVar 6))) (sCons (sIx (sVar 1) (sC (.int 5))) sNil))))) (qRet (sTup (sCons (sC (.str "choice")) (sCons (s1 tupOfD (sV (sF (sLc (sItA r1D (sCons (s1 lenD (sV (sVar 6))) sNil)) (.nm 12) bYes (sTup (sCons (sIx (sVar 8) (sVar 12)) (sCons (sIx (sVar 6) (sVar 12)) (sCons (sIx (sVar 7) (sVar 12)) sNil)))) [12])))) sNil))))))))))))))))
noncomputable def F__law_some_kind_ : Nat → SemF
  | 0 => fun _ _ => .bad
  | n + 1 => defF 4 13 (B__law_some_kind (F__law_some_kind_ n))
noncomputable abbrev F__law_some_kind : SemF := F__law_some_kind_ 30
theorem b__law_some_kind {f : Addr} {cdv : Value} {A : Around} {outer : List Env} {s : Shared} {H : Hp} {E : XK} (T : Top P w K mg base) {FR : SemF} {kR : Nat} (FDR : FdOk P w K mg base kR "_law_some_kind" ["store", "pen", "deep", "up"] [] FR) (hr : Room (max kR 5) (A.deeper (envOfC "_law_some_kind" (defScope s__law_some_kind) s.heap.objs.size f cdv))) : DSs (bodyX P w K mg base N__law_some_kind "_law_some_kind" (defScope s__law_some_kind) f cdv A outer s H E) (bodyW E) (defBody s__law_some_kind) (B__law_some_kind FR) := by
  have nd : N__law_some_kind.Nodup := by decide
  have hu := room_units hr
  have tk := body_takes (P := P) (w := w) (K := K) (mg := mg) (base := base) (N := N__law_some_kind) (x := "_law_some_kind") (sc := defScope s__law_some_kind) (f := f) (cdv := cdv) (A := A) (outer := outer) (s := s) (H := H) (E := E)
  have hp := body_passes (P := P) (w := w) (K := K) (mg := mg) (base := base) (N := N__law_some_kind) (x := "_law_some_kind") (sc := defScope s__law_some_kind) (f := f) (cdv := cdv) (A := A) (outer := outer) (s := s) (H := H) (E := E)
  unfold B__law_some_kind
  exact (dss_cons (ds_set nd rfl (by first | exact Or.inl rfl | exact Or.inr rfl) (de_if (dt_cmp (op_gtP hu) ordD_ok (du_of (de_ix (du_of de_var) de_int)) (dv_of de_int) (by rfl)) (de_call (fd__law_pick T) (hr.mono (Nat.le_trans (by decide) (Nat.le_max_right _ _))) tk rfl (da_cons de_var (da_cons de_str da_nil))) de_str)) (dss_cons (ds_if (DW.dt (dw_and (dt_cmp (op_eqP hu) eqD_ok (du_of de_var) (dv_of de_str) (by rfl)) (dw_and1 (DW.dt (dw_or (dt_cmp (op_ltP hu) ordD_ok (du_of de_var) (dv_of de_int) (by rfl)) (dw_or1 (dt_cmp (op_ltP hu) ordD_ok (du_of (de_ix (du_of de_var) de_int)) (dv_of de_int) (by rfl)))))))) (dss_one (ds_set nd rfl (by first | exact Or.inl rfl | exact Or.inr rfl) de_str)) dss_nil) (dss_cons (ds_if (dt_cmp (op_eqP hu) eqD_ok (du_of de_var) (dv_of de_str) (by rfl)) (dss_cons (ds_if (dt_cmp (op_eqP hu) eqD_ok (du_of (de_call (fd__law_take T) (hr.mono (Nat.le_trans (by decide) (Nat.le_max_right _ _))) tk rfl (da_cons de_var (da_cons de_int da_nil)))) (dv_of de_int) (by rfl)) (dss_one (ds_ret (de_tup (da_cons de_str (da_cons (de_tup da_nil) da_nil))))) dss_nil) (dss_cons (ds_set nd rfl (by first | exact Or.inl rfl | exact Or.inr rfl) (de_call (fd__law_branch_words T) (hr.mono (Nat.le_trans (by decide) (Nat.le_max_right _ _))) tk rfl (da_cons de_var (da_cons de_var (da_cons (de_call (fd__law_pick T) (hr.mono (Nat.le_trans (by decide) (Nat.le_max_right _ _))) tk rfl (da_cons de_var (da_cons (de_do (do_lst (da_cons de_int (da_cons de_int (da_cons de_int (da_cons de_int (da_cons de_int (da_cons de_int (da_cons de_int (da_cons de_int (da_cons de_int (da_cons de_int da_nil)))))))))))) da_nil))) (da_cons de_var da_nil)))))) (dss_cons (ds_set nd rfl (by first | exact Or.inl rfl | exact Or.inr rfl) (de_call (fd__law_pool_names T) (hr.mono (Nat.le_trans (by decide) (Nat.le_max_right _ _))) tk rfl (da_cons de_var (da_cons (de_len rfl T.b_len (dv_of de_var)) (da_cons (de_ix (du_of de_var) de_int) da_nil))))) (dss_one (ds_ret (de_tup (da_cons de_str (da_cons (de_tupc rfl T.b_tuple (dv_of (de_do (do_lc (own := [("k", 12)]) rfl nd (DI.dj (di_r1 rfl T.b_range (da_cons (de_len rfl T.b_len (dv_of de_var)) da_nil))) (by first | rfl | kernel_rfl) (fun _ _ _ _ _ => (dg_nm nd rfl (by first | exact Or.inl rfl | exact Or.inr rfl))) (fun _ _ _ _ _ => dts_nil) (fun _ _ _ _ _ => (de_tup (da_cons (de_ix (du_of de_var) de_var) (da_cons (de_ix (du_of de_var) de_var) da_nil)))))))) da_nil)))))))) dss_nil) (dss_cons (ds_if (dt_cmp (op_eqP hu) eqD_ok (du_of de_var) (dv_of de_str) (by rfl)) (dss_cons (ds_setR (de_sub (de_ix (du_of de_var) de_int) de_int) de_var de_int) (dss_one (ds_ret (de_tup (da_cons de_str (da_cons (de_call FDR (hr.mono (Nat.le_max_left _ _)) tk rfl (da_cons de_var (da_cons de_var (da_cons de_var (da_cons (de_not de_var) da_nil))))) da_nil)))))) dss_nil) (dss_cons (ds_if (dt_cmp (op_eqP hu) eqD_ok (du_of de_var) (dv_of de_str) (by rfl)) (dss_cons (ds_setR (de_sub (de_ix (du_of de_var) de_int) de_int) de_var de_int) (dss_cons (ds_set nd rfl (by first | exact Or.inl rfl | exact Or.inr rfl) (de_call (fd__law_pick T) (hr.mono (Nat.le_trans (by decide) (Nat.le_max_right _ _))) tk rfl (da_cons de_var (da_cons (de_do (do_lst (da_cons de_str (da_cons de_str da_nil)))) da_nil)))) (dss_cons (ds_set nd rfl (by first | exact Or.inl rfl | exact Or.inr rfl) (de_call (fd__law_branch_words T) (hr.mono (Nat.le_trans (by decide) (Nat.le_max_right _ _))) tk rfl (da_cons de_var (da_cons de_var (da_cons de_int (da_cons (de_cmp (op_eqP hu) eqD_ok (du_of (de_cmp (op_eqP hu) eqD_ok (du_of de_var) (dv_of de_str) (by rfl))) (dv_of de_var) (by rfl)) da_nil)))))) (dss_one (ds_ret (de_tup (da_cons de_str (da_cons (de_ix (du_of de_var) de_int) (da_cons (de_ix (du_of de_var) de_int) (da_cons de_var (da_cons (de_call FDR (hr.mono (Nat.le_max_left _ _)) tk rfl (da_cons de_var (da_cons de_var (da_cons (de_sub de_var de_int) (da_cons de_var da_nil))))) da_nil))))))))))) dss_nil) (dss_cons (ds_set nd rfl (by first | exact Or.inl rfl | exact Or.inr rfl) (de_min rfl rfl T.b_min (de_ix (du_of de_var) de_int) (de_call (fd__law_pick T) (hr.mono (Nat.le_trans (by decide) (Nat.le_max_right _ _))) tk rfl (da_cons de_var (da_cons (de_do (do_lst (da_cons de_int (da_cons de_int (da_cons de_int (da_cons de_int (da_cons de_int (da_cons de_int (da_cons de_int da_nil))))))))) da_nil))))) (dss_cons (ds_set nd rfl (by first | exact Or.inl rfl | exact Or.inr rfl) (de_mul (de_do (do_lst (da_cons de_str da_nil))) de_var)) (dss_cons (ds_if (dt_cmp (op_eqP hu) eqD_ok (du_of de_var) (dv_of de_str) (by rfl)) (dss_one (ds_set nd rfl (by first | exact Or.inl rfl | exact Or.inr rfl) (de_call (fd__law_branch_words T) (hr.mono (Nat.le_trans (by decide) (Nat.le_max_right _ _))) tk rfl (da_cons de_var (da_cons de_var (da_cons de_var (da_cons de_var da_nil))))))) dss_nil) (dss_cons (ds_setR (de_sub (de_ix (du_of de_var) de_int) (de_len rfl T.b_len (dv_of de_var))) de_var de_int) (dss_cons (ds_set nd rfl (by first | exact Or.inl rfl | exact Or.inr rfl) (de_do (do_lc (own := [("word", 11)]) rfl nd (DI.dj (di_of de_var)) (by first | rfl | kernel_rfl) (fun _ _ _ _ _ => (dg_nm nd rfl (by first | exact Or.inl rfl | exact Or.inr rfl))) (fun _ _ _ _ _ => dts_nil) (fun _ _ _ _ _ => (de_call FDR (hr.mono (Nat.le_max_left _ _)) tk0 rfl (da_cons de_var (da_cons de_var (da_cons de_var (da_cons de_var da_nil))))))))) (dss_cons (ds_if (dt_cmp (op_eqP hu) eqD_ok (du_of de_var) (dv_of de_str) (by rfl)) (dss_one (ds_ret (de_tup (da_cons de_str (da_cons (de_tupc rfl T.b_tuple (dv_of de_var)) da_nil))))) dss_nil) (dss_cons (ds_set nd rfl (by first | exact Or.inl rfl | exact Or.inr rfl) (de_call (fd__law_pool_names T) (hr.mono (Nat.le_trans (by decide) (Nat.le_max_right _ _))) tk rfl (da_cons de_var (da_cons (de_len rfl T.b_len (dv_of de_var)) (da_cons (de_ix (du_of de_var) de_int) da_nil))))) (dss_one (ds_ret (de_tup (da_cons de_str (da_cons (de_tupc rfl T.b_tuple (dv_of (de_do (do_lc (own := [("k", 12)]) rfl nd (DI.dj (di_r1 rfl T.b_range (da_cons (de_len rfl T.b_len (dv_of de_var)) da_nil))) (by first | rfl | kernel_rfl) (fun _ _ _ _ _ => (dg_nm nd rfl (by first | exact Or.inl rfl | exact Or.inr rfl))) (fun _ _ _ _ _ => dts_nil) (fun _ _ _ _ _ => (de_tup (da_cons (de_ix (du_of de_var) de_var) (da_cons (de_ix (du_of de_var) de_var) (da_cons (de_ix (du_of de_var) de_var) da_nil))))))))) da_nil)))))))))))))))))
theorem sc__law_some_kind : C8.scC N__law_some_kind ["store", "pen", "deep", "up"] (defScope s__law_some_kind) = true := by kernel_rfl
theorem fd__law_some_kind_ (T : Top P w K mg base) : ∀ n, FdOk P w K mg base (6 + n) "_law_some_kind" ["store", "pen", "deep", "up"] [] (F__law_some_kind_ n)
  | 0 => by
    obtain ⟨f, fd, hm, D⟩ := T.f__law_some_kind
    exact fd_none D sc__law_some_kind hm (fun _ _ _ _ _ _ us hl => match us, hl with | [_, _, _, _], _ => rfl)
  | n + 1 => by
    obtain ⟨f, fd, hm, D⟩ := T.f__law_some_kind
    exact (fd_ok D sc__law_some_kind hm (fun _ _ _ _ _ _ us hl => match us, hl with | [_, _, _, _], _ => rfl) fun cdv A outer s H E hr => b__law_some_kind T (fd__law_some_kind_ T n) (hr.mono (Nat.max_le.mpr ⟨Nat.le_refl _, Nat.le_trans (Nat.le_succ 5) (Nat.le_add_right _ _)⟩)))
theorem fd__law_some_kind (T : Top P w K mg base) : FdOk P w K mg base 36 "_law_some_kind" ["store", "pen", "deep", "up"] [] F__law_some_kind := fd__law_some_kind_ T 30
def N__law_any_kind : List Str := ["store", "size", "letters", "deep", "signs"]
noncomputable def B__law_any_kind : SS := (qSeq (qSet 4 (sCall F__law_pick [] (sCons (sVar 0) (sCons (sF (sLst (sCons (sC (.str "ab")) (sCons (sC (.str "ab")) (sCons (sC (.str "abc")) (sCons (sC (.str "abc")) (sCons (sC (.str "bd")) (sCons (sC (.str "abcd")) (sCons (sC (.str "gh")) (sCons (sC (.str "abcdefgh")) sNil)))))))))) sNil)))) (qRet (sCall F__law_some_kind [] (sCons (sVar 0) (sCons (sNew (sLst (sCons (sCall F__law_take [] (sCons (sVar 0) (sCons (sVar 1) sNil))) (sCons (sVar 2) (sCons (sVar 4) (sCons (sC (.int 3)) (sCons (sCall F__law_take [] (sCons (sVar 0) (sCons (sC (.int 3)) sNil))) (sCons (sNew (sLst sNil)) sNil)))))))) (sCons (sVar 3) (sCons (sC (.bl true)) sNil)))))))
noncomputable def F__law_any_kind : SemF := defF 4 5 B__law_any_kind
theorem b__law_any_kind {f : Addr} {cdv : Value} {A : Around} {outer : List Env} {s : Shared} {H : Hp} {E : XK} (T : Top P w K mg base) (hr : Room 36 (A.deeper (envOfC "_law_any_kind" (defScope s__law_any_kind) s.heap.objs.size f cdv))) : DSs (bodyX P w K mg base N__law_any_kind "_law_any_kind" (defScope s__law_any_kind) f cdv A outer s H E) (bodyW E) (defBody s__law_any_kind) B__law_any_kind := by
  have nd : N__law_any_kind.Nodup := by decide
  have hu := room_units hr
  have tk := body_takes (P := P) (w := w) (K := K) (mg := mg) (base := base) (N := N__law_any_kind) (x := "_law_any_kind") (sc := defScope s__law_any_kind) (f := f) (cdv := cdv) (A := A) (outer := outer) (s := s) (H := H) (E := E)
  have hp := body_passes (P := P) (w := w) (K := K) (mg := mg) (base := base) (N := N__law_any_kind) (x := "_law_any_kind") (sc := defScope s__law_any_kind) (f := f) (cdv := cdv) (A := A) (outer := outer) (s := s) (H := H) (E := E)
  unfold B__law_any_kind
  exact (dss_cons (ds_set nd rfl (by first | exact Or.inl rfl | exact Or.inr rfl) (de_call (fd__law_pick T) (hr.mono (by decide)) tk rfl (da_cons de_var (da_cons (de_do (do_lst (da_cons de_str (da_cons de_str (da_cons de_str (da_cons de_str (da_cons de_str (da_cons de_str (da_cons de_str (da_cons de_str da_nil)))))))))) da_nil)))) (dss_one (ds_ret (de_call (fd__law_some_kind T) (hr.mono (by decide)) tk rfl (da_cons de_var (da_cons (de_new (do_lst (da_cons (de_call (fd__law_take T) (hr.mono (by decide)) tk rfl (da_cons de_var (da_cons de_var da_nil))) (da_cons de_var (da_cons de_var (da_cons de_int (da_cons (de_call (fd__law_take T) (hr.mono (by decide)) tk rfl (da_cons de_var (da_cons de_int da_nil))) (da_cons (de_new (do_lst da_nil)) da_nil)))))))) (da_cons de_var (da_cons de_bl da_nil))))))))
theorem sc__law_any_kind : C8.scC N__law_any_kind ["store", "size", "letters", "deep"] (defScope s__law_any_kind) = true := by kernel_rfl
theorem fd__law_any_kind (T : Top P w K mg base) : FdOk P w K mg base 37 "_law_any_kind" ["store", "size", "letters", "deep"] [] F__law_any_kind := by
  obtain ⟨f, fd, hm, D⟩ := T.f__law_any_kind
  exact fd_ok D sc__law_any_kind hm (fun _ _ _ _ _ _ us hl => match us, hl with | [_, _, _, _], _ => rfl) fun cdv A outer s H E hr => b__law_any_kind T hr
def N__law_inner : List Str := ["node", "entry"]
noncomputable def B__law_inner : SS := (qSeq (qIf (c2 eqD (sIx (sVar 0) (sC (.int 0))) (sV (sC (.str "row")))) (qRetO (s1O lstOfD (sV (sIx (sVar 0) (sC (.int 1)))))) qNil) (qSeq (qIf (c2 eqD (sIx (sVar 0) (sC (.int 0))) (sV (sC (.str "choice")))) (qRetO (sLc (sIt (sIx (sVar 0) (sC (.int 1)))) (.nm 1) bYes (sIx (sVar 1) (sC (.int 2))) [1])) qNil) (qSeq (qIf (c2 eqD (sIx (sVar 0) (sC (.int 0))) (sV (sC (.str "list")))) (qRetO (sLst (sCons (sIx (sVar 0) (sC (.int 4))) sNil))) qNil) (qSeq (qIf (c2 eqD (sIx (sVar 0) (sC (.int 0))) (sV (sC (.str "turned")))) (qRetO (sLst (sCons (sIx (sVar 0) (sC (.int 1))) sNil))) qNil) (qRetO (sLst sNil))))))
noncomputable def F__law_inner : SemF := defF 1 2 B__law_inner
theorem b__law_inner {f : Addr} {cdv : Value} {A : Around} {outer : List Env} {s : Shared} {H : Hp} {E : XK} (T : Top P w K mg base) (hr : Room 0 (A.deeper (envOfC "_law_inner" (defScope s__law_inner) s.heap.objs.size f cdv))) : DSs (bodyX P w K mg base N__law_inner "_law_inner" (defScope s__law_inner) f cdv A outer s H E) (bodyW E) (defBody s__law_inner) B__law_inner := by
  have nd : N__law_inner.Nodup := by decide
  have hu := room_units hr
  have tk := body_takes (P := P) (w := w) (K := K) (mg := mg) (base := base) (N := N__law_inner) (x := "_law_inner") (sc := defScope s__law_inner) (f := f) (cdv := cdv) (A := A) (outer := outer) (s := s) (H := H) (E := E)
  have hp := body_passes (P := P) (w := w) (K := K) (mg := mg) (base := base) (N := N__law_inner) (x := "_law_inner") (sc := defScope s__law_inner) (f := f) (cdv := cdv) (A := A) (outer := outer) (s := s) (H := H) (E := E)
  unfold B__law_inner
  exact (dss_cons (ds_if (dt_cmp (op_eqP hu) eqD_ok (du_of (de_ix (du_of de_var) de_int)) (dv_of de_str) (by rfl)) (dss_one (ds_retO (do_lstc rfl T.b_list (dv_of (de_ix (du_of de_var) de_int))))) dss_nil) (dss_cons (ds_if (dt_cmp (op_eqP hu) eqD_ok (du_of (de_ix (du_of de_var) de_int)) (dv_of de_str) (by rfl)) (dss_one (ds_retO (do_lc (own := [("entry", 1)]) rfl nd (DI.dj (di_of (de_ix (du_of de_var) de_int))) (by first | rfl | kernel_rfl) (fun _ _ _ _ _ => (dg_nm nd rfl (by first | exact Or.inl rfl | exact Or.inr rfl))) (fun _ _ _ _ _ => dts_nil) (fun _ _ _ _ _ => (de_ix (du_of de_var) de_int))))) dss_nil) (dss_cons (ds_if (dt_cmp (op_eqP hu) eqD_ok (du_of (de_ix (du_of de_var) de_int)) (dv_of de_str) (by rfl)) (dss_one (ds_retO (do_lst (da_cons (de_ix (du_of de_var) de_int) da_nil)))) dss_nil) (dss_cons (ds_if (dt_cmp (op_eqP hu) eqD_ok (du_of (de_ix (du_of de_var) de_int)) (dv_of de_str) (by rfl)) (dss_one (ds_retO (do_lst (da_cons (de_ix (du_of de_var) de_int) da_nil)))) dss_nil) (dss_one (ds_retO (do_lst da_nil)))))))
theorem sc__law_inner : C8.scC N__law_inner ["node"] (defScope s__law_inner) = true := by kernel_rfl
theorem fd__law_inner (T : Top P w K mg base) : FdOk P w K mg base 1 "_law_inner" ["node"] [] F__law_inner := by
  obtain ⟨f, fd, hm, D⟩ := T.f__law_inner
  exact fd_ok D sc__law_inner hm (fun _ _ _ _ _ _ us hl => match us, hl with | [_], _ => rfl) fun cdv A outer s H E hr => b__law_inner T hr
def N__law_walk : List Str := ["kind", "told", "stack", "k", "path", "node", "up", "inner", "i", "j"]
noncomputable def B__law_walk : SS := (qSeq (qSetO 1 (sLst sNil)) (qSeq (qSetO 2 (sLst (sCons (sTup (sCons (sTup sNil) (sCons (sVar 0) (sCons (sC (.bl true)) sNil)))) sNil))) (qSeq (qFor (sItA r1D (sCons (sC (.int 400)) sNil)) (.nm 3) (qSeq (qIf (c2 eqD (sOwn 2) (sV (sF (sLst sNil)))) qBreak qNil) (qSeq (qPop (.tp [(.nm 4), (.nm 5), (.nm 6)]) 2) (qSeq (qM 1 kApp (sCons (sTup (sCons (sVar 4) (sCons (sVar 5) (sCons (sVar 6) sNil)))) sNil)) (qSeq (qSet 7 (sCall F__law_inner [] (sCons (sVar 5) sNil))) (qFor (sItA r1D (sCons (s1 lenD (sV (sVar 7))) sNil)) (.nm 8) (qSeq (qSet 9 (s2 subD (s2 subD (s1 lenD (sV (sVar 7))) (sC (.int 1))) (sVar 8))) (qM 2 kApp (sCons (sTup (sCons (s2 addD (sVar 4) (sTup (sCons (sVar 9) sNil))) (sCons (sIx (sVar 7) (sVar 9)) (sCons (sB (c2 neD (sVar 6) (sV (sB (c2 eqD (sIx (sVar 5) (sC (.int 0))) (sV (sC (.str "turned")))))))) sNil)))) sNil))))))))) (qRetV 1))))
noncomputable def F__law_walk : SemF := defF 1 10 B__law_walk
theorem b__law_walk {f : Addr} {cdv : Value} {A : Around} {outer : List Env} {s : Shared} {H : Hp} {E : XK} (T : Top P w K mg base) (hr : Room 1 (A.deeper (envOfC "_law_walk" (defScope s__law_walk) s.heap.objs.size f cdv))) : DSs (bodyX P w K mg base N__law_walk "_law_walk" (defScope s__law_walk) f cdv A outer s H E) (bodyW E) (defBody s__law_walk) B__law_walk := by
  have nd : N__law_walk.Nodup := by decide
  have hu := room_units hr
  have tk := body_takes (P := P) (w := w) (K := K) (mg := mg) (base := base) (N := N__law_walk) (x := "_law_walk") (sc := defScope s__law_walk) (f := f) (cdv := cdv) (A := A) (outer := outer) (s := s) (H := H) (E := E)
  have hp := body_passes (P := P) (w := w) (K := K) (mg := mg) (base := base) (N := N__law_walk) (x := "_law_walk") (sc := defScope s__law_walk) (f := f) (cdv := cdv) (A := A) (outer := outer) (s := s) (H := H) (E := E)
  unfold B__law_walk
  exact (dss_cons (ds_setO nd rfl (by first | exact Or.inl rfl | exact Or.inr rfl) (do_lst da_nil)) (dss_cons (ds_setO nd rfl (by first | exact Or.inl rfl | exact Or.inr rfl) (do_lst (da_cons (de_tup (da_cons (de_tup da_nil) (da_cons de_var (da_cons de_bl da_nil)))) da_nil))) (dss_cons (ds_for hp rfl (di_r1 rfl T.b_range (da_cons de_int da_nil)) (dg_nm nd rfl (by first | exact Or.inl rfl | exact Or.inr rfl)) (dss_cons (ds_if (dt_cmp (op_eqP hu) eqD_ok du_own (dv_of (de_do (do_lst da_nil))) (by rfl)) (dss_one ds_break) dss_nil) (dss_cons (ds_pop (dg_tp rfl (dgs_cons (dg_nm nd rfl (by first | exact Or.inl rfl | exact Or.inr rfl)) (dgs_cons (dg_nm nd rfl (by first | exact Or.inl rfl | exact Or.inr rfl)) (dgs_cons (dg_nm nd rfl (by first | exact Or.inl rfl | exact Or.inr rfl)) dgs_nil))))) (dss_cons (ds_m F.slot_list_append F.type_list_append mt_append md_app (da_cons (de_tup (da_cons de_var (da_cons de_var (da_cons de_var da_nil)))) da_nil)) (dss_cons (ds_set nd rfl (by first | exact Or.inl rfl | exact Or.inr rfl) (de_call (fd__law_inner T) (hr.mono (by decide)) tk rfl (da_cons de_var da_nil))) (dss_one (ds_for hp rfl (di_r1 rfl T.b_range (da_cons (de_len rfl T.b_len (dv_of de_var)) da_nil)) (dg_nm nd rfl (by first | exact Or.inl rfl | exact Or.inr rfl)) (dss_cons (ds_set nd rfl (by first | exact Or.inl rfl | exact Or.inr rfl) (de_sub (de_sub (de_len rfl T.b_len (dv_of de_var)) de_int) de_var)) (dss_one (ds_m F.slot_list_append F.type_list_append mt_append md_app (da_cons (de_tup (da_cons (de_add de_var (de_tup (da_cons de_var da_nil))) (da_cons (de_ix (du_of de_var) de_var) (da_cons (de_cmp (op_neP hu) neD_ok (du_of de_var) (dv_of (de_cmp (op_eqP hu) eqD_ok (du_of (de_ix (du_of de_var) de_int)) (dv_of de_str) (by rfl))) (by rfl)) da_nil)))) da_nil))))))))))) (dss_one ds_retV))))
theorem sc__law_walk : C8.scC N__law_walk ["kind"] (defScope s__law_walk) = true := by kernel_rfl
theorem fd__law_walk (T : Top P w K mg base) : FdOk P w K mg base 2 "_law_walk" ["kind"] [] F__law_walk := by
  obtain ⟨f, fd, hm, D⟩ := T.f__law_walk
  exact fd_ok D sc__law_walk hm (fun _ _ _ _ _ _ us hl => match us, hl with | [_], _ => rfl) fun cdv A outer s H E hr => b__law_walk T hr
def N__law_with : List Str := ["node", "k", "part", "entry"]
noncomputable def B__law_with : SS := (qSeq (qIf (c2 eqD (sIx (sVar 0) (sC (.int 0))) (sV (sC (.str "row")))) (qRet (sTup (sCons (sC (.str "row")) (sCons (s2 addD (s2 addD (sSl (sIx (sVar 0) (sC (.int 1))) pNone (pSome (sVar 1))) (sTup (sCons (sVar 2) sNil))) (sSl (sIx (sVar 0) (sC (.int 1))) (pSome (s2 addD (sVar 1) (sC (.int 1)))) pNone)) sNil)))) qNil) (qSeq (qIf (c2 eqD (sIx (sVar 0) (sC (.int 0))) (sV (sC (.str "choice")))) (qSeq (qSet 3 (sTup (sCons (sIx (sIx (sIx (sVar 0) (sC (.int 1))) (sVar 1)) (sC (.int 0))) (sCons (sIx (sIx (sIx (sVar 0) (sC (.int 1))) (sVar 1)) (sC (.int 1))) (sCons (sVar 2) sNil))))) (qRet (sTup (sCons (sC (.str "choice")) (sCons (s2 addD (s2 addD (sSl (sIx (sVar 0) (sC (.int 1))) pNone (pSome (sVar 1))) (sTup (sCons (sVar 3) sNil))) (sSl (sIx (sVar 0) (sC (.int 1))) (pSome (s2 addD (sVar 1) (sC (.int 1)))) pNone)) sNil))))) qNil) (qSeq (qIf (c2 eqD (sIx (sVar 0) (sC (.int 0))) (sV (sC (.str "list")))) (qRet (s2 addD (sSl (sVar 0) pNone (pSome (sC (.int 4)))) (sTup (sCons (sVar 2) sNil)))) qNil) (qRet (sTup (sCons (sC (.str "turned")) (sCons (sVar 2) sNil)))))))
noncomputable def F__law_with : SemF := defF 3 4 B__law_with
theorem b__law_with {f : Addr} {cdv : Value} {A : Around} {outer : List Env} {s : Shared} {H : Hp} {E : XK} (T : Top P w K mg base) (hr : Room 0 (A.deeper (envOfC "_law_with" (defScope s__law_with) s.heap.objs.size f cdv))) : DSs (bodyX P w K mg base N__law_with "_law_with" (defScope s__law_with) f cdv A outer s H E) (bodyW E) (defBody s__law_with) B__law_with := by
  have nd : N__law_with.Nodup := by decide
  have hu := room_units hr
  have tk := body_takes (P := P) (w := w) (K := K) (mg := mg) (base := base) (N := N__law_with) (x := "_law_with") (sc := defScope s__law_with) (f := f) (cdv := cdv) (A := A) (outer := outer) (s := s) (H := H) (E := E)
  have hp := body_passes (P := P) (w := w) (K := K) (mg := mg) (base := base) (N := N__law_with) (x := "_law_with") (sc := defScope s__law_with) (f := f) (cdv := cdv) (A := A) (outer := outer) (s := s) (H := H) (E := E)
  unfold B__law_with
  exact (dss_cons (ds_if (dt_cmp (op_eqP hu) eqD_ok (du_of (de_ix (du_of de_var) de_int)) (dv_of de_str) (by rfl)) (dss_one (ds_ret (de_tup (da_cons de_str (da_cons (de_add (de_add (de_sl (du_of (de_ix (du_of de_var) de_int)) dp_none (dp_some de_var)) (de_tup (da_cons de_var da_nil))) (de_sl (du_of (de_ix (du_of de_var) de_int)) (dp_some (de_add de_var de_int)) dp_none)) da_nil))))) dss_nil) (dss_cons (ds_if (dt_cmp (op_eqP hu) eqD_ok (du_of (de_ix (du_of de_var) de_int)) (dv_of de_str) (by rfl)) (dss_cons (ds_set nd rfl (by first | exact Or.inl rfl | exact Or.inr rfl) (de_tup (da_cons (de_ix (du_of (de_ix (du_of (de_ix (du_of de_var) de_int)) de_var)) de_int) (da_cons (de_ix (du_of (de_ix (du_of (de_ix (du_of de_var) de_int)) de_var)) de_int) (da_cons de_var da_nil))))) (dss_one (ds_ret (de_tup (da_cons de_str (da_cons (de_add (de_add (de_sl (du_of (de_ix (du_of de_var) de_int)) dp_none (dp_some de_var)) (de_tup (da_cons de_var da_nil))) (de_sl (du_of (de_ix (du_of de_var) de_int)) (dp_some (de_add de_var de_int)) dp_none)) da_nil)))))) dss_nil) (dss_cons (ds_if (dt_cmp (op_eqP hu) eqD_ok (du_of (de_ix (du_of de_var) de_int)) (dv_of de_str) (by rfl)) (dss_one (ds_ret (de_add (de_sl (du_of de_var) dp_none (dp_some de_int)) (de_tup (da_cons de_var da_nil))))) dss_nil) (dss_one (ds_ret (de_tup (da_cons de_str (da_cons de_var da_nil))))))))
theorem sc__law_with : C8.scC N__law_with ["node", "k", "part"] (defScope s__law_with) = true := by kernel_rfl
theorem fd__law_with (T : Top P w K mg base) : FdOk P w K mg base 1 "_law_with" ["node", "k", "part"] [] F__law_with := by
  obtain ⟨f, fd, hm, D⟩ := T.f__law_with
  exact fd_ok D sc__law_with hm (fun _ _ _ _ _ _ us hl => match us, hl with | [_, _, _], _ => rfl) fun cdv A outer s H E hr => b__law_with T hr
def N__law_put : List Str := ["kind", "path", "part", "spine", "node", "step", "k", "spot"]
noncomputable def B__law_put : SS := (qSeq (qSetO 3 (sLst sNil)) (qSeq (qSet 4 (sVar 0)) (qSeq (qFor (sIt (sVar 1)) (.nm 5) (qSeq (qM 3 kApp (sCons (sVar 4) sNil)) (qSet 4 (sIx (sCall F__law_inner [] (sCons (sVar 4) sNil)) (sVar 5))))) (qSeq (qFor (sItA r1D (sCons (s1 lenD (sV (sVar 1))) sNil)) (.nm 6) (qSeq (qSet 7 (s2 subD (s2 subD (s1 lenD (sV (sVar 1))) (sC (.int 1))) (sVar 6))) (qSet 2 (sCall F__law_with [] (sCons (sIx (sOwn 3) (sVar 7)) (sCons (sIx (sVar 1) (sVar 7)) (sCons (sVar 2) sNil))))))) (qRet (sVar 2))))))
noncomputable def F__law_put : SemF := defF 3 8 B__law_put
theorem b__law_put {f : Addr} {cdv : Value} {A : Around} {outer : List Env} {s : Shared} {H : Hp} {E : XK} (T : Top P w K mg base) (hr : Room 1 (A.deeper (envOfC "_law_put" (defScope s__law_put) s.heap.objs.size f cdv))) : DSs (bodyX P w K mg base N__law_put "_law_put" (defScope s__law_put) f cdv A outer s H E) (bodyW E) (defBody s__law_put) B__law_put := by
  have nd : N__law_put.Nodup := by decide
  have hu := room_units hr
  have tk := body_takes (P := P) (w := w) (K := K) (mg := mg) (base := base) (N := N__law_put) (x := "_law_put") (sc := defScope s__law_put) (f := f) (cdv := cdv) (A := A) (outer := outer) (s := s) (H := H) (E := E)
  have hp := body_passes (P := P) (w := w) (K := K) (mg := mg) (base := base) (N := N__law_put) (x := "_law_put") (sc := defScope s__law_put) (f := f) (cdv := cdv) (A := A) (outer := outer) (s := s) (H := H) (E := E)
  unfold B__law_put
  exact (dss_cons (ds_setO nd rfl (by first | exact Or.inl rfl | exact Or.inr rfl) (do_lst da_nil)) (dss_cons (ds_set nd rfl (by first | exact Or.inl rfl | exact Or.inr rfl) de_var) (dss_cons (ds_for hp rfl (di_of de_var) (dg_nm nd rfl (by first | exact Or.inl rfl | exact Or.inr rfl)) (dss_cons (ds_m F.slot_list_append F.type_list_append mt_append md_app (da_cons de_var da_nil)) (dss_one (ds_set nd rfl (by first | exact Or.inl rfl | exact Or.inr rfl) (de_ix (du_of (de_call (fd__law_inner T) (hr.mono (by decide)) tk rfl (da_cons de_var da_nil))) de_var))))) (dss_cons (ds_for hp rfl (di_r1 rfl T.b_range (da_cons (de_len rfl T.b_len (dv_of de_var)) da_nil)) (dg_nm nd rfl (by first | exact Or.inl rfl | exact Or.inr rfl)) (dss_cons (ds_set nd rfl (by first | exact Or.inl rfl | exact Or.inr rfl) (de_sub (de_sub (de_len rfl T.b_len (dv_of de_var)) de_int) de_var)) (dss_one (ds_set nd rfl (by first | exact Or.inl rfl | exact Or.inr rfl) (de_call (fd__law_with T) (hr.mono (by decide)) tk rfl (da_cons (de_ix du_own de_var) (da_cons (de_ix (du_of de_var) de_var) (da_cons de_var da_nil)))))))) (dss_one (ds_ret de_var))))))
theorem sc__law_put : C8.scC N__law_put ["kind", "path", "part"] (defScope s__law_put) = true := by kernel_rfl
theorem fd__law_put (T : Top P w K mg base) : FdOk P w K mg base 2 "_law_put" ["kind", "path", "part"] [] F__law_put := by
  obtain ⟨f, fd, hm, D⟩ := T.f__law_put
  exact fd_ok D sc__law_put hm (fun _ _ _ _ _ _ us hl => match us, hl with | [_, _, _], _ => rfl) fun cdv A outer s H E hr => b__law_put T hr
def N__law_line : List Str := ["node", "up", "told"]
noncomputable def B__law_line : SS := (qSeq (qIf (c2 eqD (sIx (sVar 0) (sC (.int 0))) (sV (sC (.str "list")))) (qRet (sIf (c2 eqD (sB (c2 eqD (sIx (sVar 0) (sC (.int 3))) (sV (sC (.str "first"))))) (sV (sVar 1))) (sTup (sCons (sC (.int 0)) (sCons (sC (.int 1)) sNil))) (sTup (sCons (sC (.int 1)) (sCons (sC (.int 0)) sNil))))) qNil) (qSeq (qSet 2 (sF (s1O rgLD (s1 lenD (sV (sIx (sVar 0) (sC (.int 1)))))))) (qRet (sIf (sTst (sVar 1)) (s1 tupOfD (sV (sVar 2))) (s1 tupOfD (sV (sF (sRevO (sVar 2)))))))))
noncomputable def F__law_line : SemF := defF 2 3 B__law_line
theorem b__law_line {f : Addr} {cdv : Value} {A : Around} {outer : List Env} {s : Shared} {H : Hp} {E : XK} (T : Top P w K mg base) (hr : Room 0 (A.deeper (envOfC "_law_line" (defScope s__law_line) s.heap.objs.size f cdv))) : DSs (bodyX P w K mg base N__law_line "_law_line" (defScope s__law_line) f cdv A outer s H E) (bodyW E) (defBody s__law_line) B__law_line := by
  have nd : N__law_line.Nodup := by decide
  have hu := room_units hr
  have tk := body_takes (P := P) (w := w) (K := K) (mg := mg) (base := base) (N := N__law_line) (x := "_law_line") (sc := defScope s__law_line) (f := f) (cdv := cdv) (A := A) (outer := outer) (s := s) (H := H) (E := E)
  have hp := body_passes (P := P) (w := w) (K := K) (mg := mg) (base := base) (N := N__law_line) (x := "_law_line") (sc := defScope s__law_line) (f := f) (cdv := cdv) (A := A) (outer := outer) (s := s) (H := H) (E := E)
  unfold B__law_line
  exact (dss_cons (ds_if (dt_cmp (op_eqP hu) eqD_ok (du_of (de_ix (du_of de_var) de_int)) (dv_of de_str) (by rfl)) (dss_one (ds_ret (de_if (dt_cmp (op_eqP hu) eqD_ok (du_of (de_cmp (op_eqP hu) eqD_ok (du_of (de_ix (du_of de_var) de_int)) (dv_of de_str) (by rfl))) (dv_of de_var) (by rfl)) (de_tup (da_cons de_int (da_cons de_int da_nil))) (de_tup (da_cons de_int (da_cons de_int da_nil)))))) dss_nil) (dss_cons (ds_set nd rfl (by first | exact Or.inl rfl | exact Or.inr rfl) (de_do (do_lstrg rfl rfl T.b_list rfl T.b_range (de_len rfl T.b_len (dv_of (de_ix (du_of de_var) de_int)))))) (dss_one (ds_ret (de_if (dt_val de_var) (de_tupc rfl T.b_tuple (dv_of de_var)) (de_tupc rfl T.b_tuple (dv_of (de_do (do_rev (du_of de_var))))))))))
theorem sc__law_line : C8.scC N__law_line ["node", "up"] (defScope s__law_line) = true := by kernel_rfl
theorem fd__law_line (T : Top P w K mg base) : FdOk P w K mg base 1 "_law_line" ["node", "up"] [] F__law_line := by
  obtain ⟨f, fd, hm, D⟩ := T.f__law_line
  exact fd_ok D sc__law_line hm (fun _ _ _ _ _ _ us hl => match us, hl with | [_, _], _ => rfl) fun cdv A outer s H E hr => b__law_line T hr
def N__law_lists : List Str := ["kind", "told", "path", "node", "up", "words", "place", "entry"]
noncomputable def B__law_lists : SS := (qSeq (qSetO 1 (sLst sNil)) (qSeq (qFor (sIt (sCall F__law_walk [] (sCons (sVar 0) sNil))) (.tp [(.nm 2), (.nm 3), (.nm 4)]) (qSeq (qSet 5 (sIf (c2 (inB id) (sIx (sVar 3) (sC (.int 0))) (sV (sTup (sCons (sC (.str "table")) (sCons (sC (.str "choice")) sNil))))) (sF (sLc (sIt (sIx (sVar 3) (sC (.int 1)))) (.nm 7) bYes (sIx (sVar 7) (sC (.int 1))) [7])) (sF (sLst sNil)))) (qSeq (qIf (c2 eqD (sIx (sVar 3) (sC (.int 0))) (sV (sC (.str "list")))) (qSet 5 (sF (sLst (sCons (sIx (sVar 3) (sC (.int 1))) (sCons (sIx (sVar 3) (sC (.int 2))) sNil))))) qNil) (qSeq (qSet 6 (vOr (sB (c2 eqD (sIx (sVar 3) (sC (.int 0))) (sV (sC (.str "list"))))) (sB (c2 (ordD false true) (s1 lenD (sV (sVar 5))) (sV (sC (.int 1))))))) (qM 1 kApp (sCons (sTup (sCons (sVar 2) (sCons (sIx (sVar 3) (sC (.int 0))) (sCons (sVar 4) (sCons (sVar 5) (sCons (sVar 6) sNil)))))) sNil)))))) (qRetV 1)))
noncomputable def F__law_lists : SemF := defF 1 8 B__law_lists
theorem b__law_lists {f : Addr} {cdv : Value} {A : Around} {outer : List Env} {s : Shared} {H : Hp} {E : XK} (T : Top P w K mg base) (hr : Room 2 (A.deeper (envOfC "_law_lists" (defScope s__law_lists) s.heap.objs.size f cdv))) : DSs (bodyX P w K mg base N__law_lists "_law_lists" (defScope s__law_lists) f cdv A outer s H E) (bodyW E) (defBody s__law_lists) B__law_lists := by
  have nd : N__law_lists.Nodup := by decide
  have hu := room_units hr
  have tk := body_takes (P := P) (w := w) (K := K) (mg := mg) (base := base) (N := N__law_lists) (x := "_law_lists") (sc := defScope s__law_lists) (f := f) (cdv := cdv) (A := A) (outer := outer) (s := s) (H := H) (E := E)
  have hp := body_passes (P := P) (w := w) (K := K) (mg := mg) (base := base) (N := N__law_lists) (x := "_law_lists") (sc := defScope s__law_lists) (f := f) (cdv := cdv) (A := A) (outer := outer) (s := s) (H := H) (E := E)
  unfold B__law_lists
  exact (dss_cons (ds_setO nd rfl (by first | exact Or.inl rfl | exact Or.inr rfl) (do_lst da_nil)) (dss_cons (ds_for hp rfl (di_of (de_call (fd__law_walk T) (hr.mono (by decide)) tk rfl (da_cons de_var da_nil))) (dg_tp rfl (dgs_cons (dg_nm nd rfl (by first | exact Or.inl rfl | exact Or.inr rfl)) (dgs_cons (dg_nm nd rfl (by first | exact Or.inl rfl | exact Or.inr rfl)) (dgs_cons (dg_nm nd rfl (by first | exact Or.inl rfl | exact Or.inr rfl)) dgs_nil)))) (dss_cons (ds_set nd rfl (by first | exact Or.inl rfl | exact Or.inr rfl) (de_if (dt_cmp (op_inP hu) inB_ok (du_of (de_ix (du_of de_var) de_int)) (dv_of (de_tup (da_cons de_str (da_cons de_str da_nil)))) (by rfl)) (de_do (do_lc (own := [("entry", 7)]) rfl nd (DI.dj (di_of (de_ix (du_of de_var) de_int))) (by first | rfl | kernel_rfl) (fun _ _ _ _ _ => (dg_nm nd rfl (by first | exact Or.inl rfl | exact Or.inr rfl))) (fun _ _ _ _ _ => dts_nil) (fun _ _ _ _ _ => (de_ix (du_of de_var) de_int)))) (de_do (do_lst da_nil)))) (dss_cons (ds_if (dt_cmp (op_eqP hu) eqD_ok (du_of (de_ix (du_of de_var) de_int)) (dv_of de_str) (by rfl)) (dss_one (ds_set nd rfl (by first | exact Or.inl rfl | exact Or.inr rfl) (de_do (do_lst (da_cons (de_ix (du_of de_var) de_int) (da_cons (de_ix (du_of de_var) de_int) da_nil)))))) dss_nil) (dss_cons (ds_set nd rfl (by first | exact Or.inl rfl | exact Or.inr rfl) (de_or (de_cmp (op_eqP hu) eqD_ok (du_of (de_ix (du_of de_var) de_int)) (dv_of de_str) (by rfl)) (de_one (de_cmp (op_gtP hu) ordD_ok (du_of (de_len rfl T.b_len (dv_of de_var))) (dv_of de_int) (by rfl))))) (dss_one (ds_m F.slot_list_append F.type_list_append mt_append md_app (da_cons (de_tup (da_cons de_var (da_cons (de_ix (du_of de_var) de_int) (da_cons de_var (da_cons de_var (da_cons de_var da_nil)))))) da_nil))))))) (dss_one ds_retV)))
theorem sc__law_lists : C8.scC N__law_lists ["kind"] (defScope s__law_lists) = true := by kernel_rfl
theorem fd__law_lists (T : Top P w K mg base) : FdOk P w K mg base 3 "_law_lists" ["kind"] [] F__law_lists := by
  obtain ⟨f, fd, hm, D⟩ := T.f__law_lists
  exact fd_ok D sc__law_lists hm (fun _ _ _ _ _ _ us hl => match us, hl with | [_], _ => rfl) fun cdv A outer s H E hr => b__law_lists T hr
def N__law_spliced : List Str := ["rows", "path", "up", "inner", "told", "row"]
noncomputable def B__law_spliced : SS := (qSeq (qSetO 4 (sLc (sIt (sVar 0)) (.nm 5) (c2 (ordD false false) (sIx (sVar 5) (sC (.int 0))) (sV (sVar 1))) (sVar 5) [5])) (qSeq (qFor (sIt (sVar 3)) (.nm 5) (qM 4 kApp (sCons (sTup (sCons (s2 addD (sVar 1) (sIx (sVar 5) (sC (.int 0)))) (sCons (sIx (sVar 5) (sC (.int 1))) (sCons (sB (c2 eqD (sIx (sVar 5) (sC (.int 2))) (sV (sVar 2)))) (sCons (sIx (sVar 5) (sC (.int 3))) (sCons (sIx (sVar 5) (sC (.int 4))) sNil)))))) sNil))) (qFrz 4 (qRet (s2 addD (sVar 4) (sF (sLc (sIt (sVar 0)) (.nm 5) (bAnd (c2 (ordD false true) (sIx (sVar 5) (sC (.int 0))) (sV (sVar 1))) (c2 neD (sSl (sIx (sVar 5) (sC (.int 0))) pNone (pSome (s1 lenD (sV (sVar 1))))) (sV (sVar 1)))) (sVar 5) [5])))))))
noncomputable def F__law_spliced : SemF := defF 4 6 B__law_spliced
theorem b__law_spliced {f : Addr} {cdv : Value} {A : Around} {outer : List Env} {s : Shared} {H : Hp} {E : XK} (T : Top P w K mg base) (hr : Room 0 (A.deeper (envOfC "_law_spliced" (defScope s__law_spliced) s.heap.objs.size f cdv))) : DSs (bodyX P w K mg base N__law_spliced "_law_spliced" (defScope s__law_spliced) f cdv A outer s H E) (bodyW E) (defBody s__law_spliced) B__law_spliced := by
  have nd : N__law_spliced.Nodup := by decide
  have hu := room_units hr
  have tk := body_takes (P := P) (w := w) (K := K) (mg := mg) (base := base) (N := N__law_spliced) (x := "_law_spliced") (sc := defScope s__law_spliced) (f := f) (cdv := cdv) (A := A) (outer := outer) (s := s) (H := H) (E := E)
  have hp := body_passes (P := P) (w := w) (K := K) (mg := mg) (base := base) (N := N__law_spliced) (x := "_law_spliced") (sc := defScope s__law_spliced) (f := f) (cdv := cdv) (A := A) (outer := outer) (s := s) (H := H) (E := E)
  unfold B__law_spliced
  exact (dss_cons (ds_setLcO (own := [("row", 5)]) rfl nd rfl rfl (sw_true rfl rfl rfl rfl) (DI.dj (di_of de_var)) (by first | rfl | kernel_rfl) (fun _ _ _ _ _ => (dg_nm nd rfl (by first | exact Or.inl rfl | exact Or.inr rfl))) (fun _ _ _ _ _ => (dts_one (dt_cmp (op_ltP hu) ordD_ok (du_of (de_ix (du_of de_var) de_int)) (dv_of de_var) (by rfl)))) (fun _ _ _ _ _ => de_var)) (dss_cons (ds_for hp rfl (di_of de_var) (dg_nm nd rfl (by first | exact Or.inl rfl | exact Or.inr rfl)) (dss_one (ds_m F.slot_list_append F.type_list_append mt_append md_app (da_cons (de_tup (da_cons (de_add de_var (de_ix (du_of de_var) de_int)) (da_cons (de_ix (du_of de_var) de_int) (da_cons (de_cmp (op_eqP hu) eqD_ok (du_of (de_ix (du_of de_var) de_int)) (dv_of de_var) (by rfl)) (da_cons (de_ix (du_of de_var) de_int) (da_cons (de_ix (du_of de_var) de_int) da_nil)))))) da_nil)))) (dss_frz (dss_one (ds_ret (de_add de_var (de_do (do_lc (own := [("row", 5)]) rfl nd (DI.dj (di_of de_var)) (by first | rfl | kernel_rfl) (fun _ _ _ _ _ => (dg_nm nd rfl (by first | exact Or.inl rfl | exact Or.inr rfl))) (fun _ _ _ _ _ => (dts_one (DW.dt (dw_and (dt_cmp (op_gtP hu) ordD_ok (du_of (de_ix (du_of de_var) de_int)) (dv_of de_var) (by rfl)) (dw_and1 (dt_cmp (op_neP hu) neD_ok (du_of (de_sl (du_of (de_ix (du_of de_var) de_int)) dp_none (dp_some (de_len rfl T.b_len (dv_of de_var))))) (dv_of de_var) (by rfl))))))) (fun _ _ _ _ _ => de_var)))))))))
theorem sc__law_spliced : C8.scC N__law_spliced ["rows", "path", "up", "inner"] (defScope s__law_spliced) = true := by kernel_rfl
theorem fd__law_spliced (T : Top P w K mg base) : FdOk P w K mg base 1 "_law_spliced" ["rows", "path", "up", "inner"] [] F__law_spliced := by
  obtain ⟨f, fd, hm, D⟩ := T.f__law_spliced
  exact fd_ok D sc__law_spliced hm (fun _ _ _ _ _ _ us hl => match us, hl with | [_, _, _, _], _ => rfl) fun cdv A outer s H E hr => b__law_spliced T hr
def N__law_shows : List Str := ["kind", "rows", "due", "told", "deep", "lists", "row", "word", "path", "one"]
noncomputable def B__law_shows : SS := (qSeq (qSet 2 (s1 tupOfD (sV (sF (sLc (sIt (sVar 1)) (.nm 6) bYes (sTup (sCons (sIx (sVar 6) (sC (.int 0))) (sCons (sIx (sVar 6) (sC (.int 1))) (sCons (sIf (sTst (sIx (sVar 6) (sC (.int 2)))) (sC (.str "up")) (sC (.str "down"))) sNil)))) [6]))))) (qSeq (qIf (bNot (sTst (sCall F__law_same [] (sCons (sF (sLst (sCons (sCall F_nodes [] (sCons (sVar 0) sNil)) (sCons (sCall F_check_kind [.bl false] (sCons (sVar 0) sNil)) sNil)))) (sCons (sF (sLst (sCons (sVar 2) (sCons (sC .non) sNil)))) sNil))))) (qRet (sC (.bl false))) qNil) (qSeq (qSetO 3 (sLst sNil)) (qSeq (qSet 4 (sC (.int 0))) (qSeq (qSet 5 (sF (sLc (sIt (sVar 1)) (.nm 6) (c2 eqD (sIx (sVar 6) (sC (.int 1))) (sV (sC (.str "list")))) (sIx (sVar 6) (sC (.int 0))) [6]))) (qSeq (qFor (sIt (sVar 1)) (.nm 6) (qSeq (qM 3 kExt (sCons (sF (sLc (sIt (sIx (sVar 6) (sC (.int 3)))) (.nm 7) bYes (sTup (sCons (sIx (sVar 6) (sC (.int 0))) (sCons (sVar 7) sNil))) [7])) sNil)) (qSet 4 (s2 maxD (sVar 4) (s1 lenD (sV (sF (sLc (sIt (sVar 5)) (.nm 8) (c2 eqD (sSl (sIx (sVar 6) (sC (.int 0))) pNone (pSome (s1 lenD (sV (sVar 8))))) (sV (sVar 8))) (sVar 8) [8])))))))) (qSeq (qIf (bNot (sTst (sCall F__law_same [] (sCons (sF (sLst (sCons (sCall F_words_of [] (sCons (sVar 0) sNil)) (sCons (sCall F_places_of [] (sCons (sVar 0) sNil)) sNil)))) (sCons (sF (sLst (sCons (s1 tupOfD (sOwn 3)) (sCons (s1 tupOfD (sV (sF (sLc (sIt (sVar 1)) (.nm 6) (sTst (sIx (sVar 6) (sC (.int 4)))) (sIx (sVar 6) (sC (.int 0))) [6])))) sNil)))) sNil))))) (qRet (sC (.bl false))) qNil) (qRet (sCall F__law_same [] (sCons (sF (sLst (sCons (sCall F_letters_of [] (sCons (sVar 0) sNil)) (sCons (sCall F_depth_of [] (sCons (sVar 0) sNil)) sNil)))) (sCons (sF (sLst (sCons (s1 lenD (sV (sJoin (sC (.str "")) (sV (sF (sLc (sItO 3) (.nm 9) bYes (sIx (sVar 9) (sC (.int 1))) [9])))))) (sCons (sVar 4) sNil)))) sNil)))))))))))
noncomputable def F__law_shows : SemF := defF 2 10 B__law_shows
theorem b__law_shows {f : Addr} {cdv : Value} {A : Around} {outer : List Env} {s : Shared} {H : Hp} {E : XK} (T : Top P w K mg base) (hr : Room 6 (A.deeper (envOfC "_law_shows" (defScope s__law_shows) s.heap.objs.size f cdv))) : DSs (bodyX P w K mg base N__law_shows "_law_shows" (defScope s__law_shows) f cdv A outer s H E) (bodyW E) (defBody s__law_shows) B__law_shows := by
  have nd : N__law_shows.Nodup := by decide
  have hu := room_units hr
  have tk := body_takes (P := P) (w := w) (K := K) (mg := mg) (base := base) (N := N__law_shows) (x := "_law_shows") (sc := defScope s__law_shows) (f := f) (cdv := cdv) (A := A) (outer := outer) (s := s) (H := H) (E := E)
  have hp := body_passes (P := P) (w := w) (K := K) (mg := mg) (base := base) (N := N__law_shows) (x := "_law_shows") (sc := defScope s__law_shows) (f := f) (cdv := cdv) (A := A) (outer := outer) (s := s) (H := H) (E := E)
  unfold B__law_shows
  exact (dss_cons (ds_set nd rfl (by first | exact Or.inl rfl | exact Or.inr rfl) (de_tupc rfl T.b_tuple (dv_of (de_do (do_lc (own := [("row", 6)]) rfl nd (DI.dj (di_of de_var)) (by first | rfl | kernel_rfl) (fun _ _ _ _ _ => (dg_nm nd rfl (by first | exact Or.inl rfl | exact Or.inr rfl))) (fun _ _ _ _ _ => dts_nil) (fun _ _ _ _ _ => (de_tup (da_cons (de_ix (du_of de_var) de_int) (da_cons (de_ix (du_of de_var) de_int) (da_cons (de_if (dt_val (de_ix (du_of de_var) de_int)) de_str de_str) da_nil)))))))))) (dss_cons (ds_if (dt_not (dt_val (de_call (fd__law_same T) (hr.mono (by decide)) tk rfl (da_cons (de_do (do_lst (da_cons (de_call (fd_nodes T) (hr.mono (by decide)) tk rfl (da_cons de_var da_nil)) (da_cons (de_call (fd_check_kind T) (hr.mono (by decide)) tk rfl (da_cons de_var da_nil)) da_nil)))) (da_cons (de_do (do_lst (da_cons de_var (da_cons de_non da_nil)))) da_nil))))) (dss_one (ds_ret de_bl)) dss_nil) (dss_cons (ds_setO nd rfl (by first | exact Or.inl rfl | exact Or.inr rfl) (do_lst da_nil)) (dss_cons (ds_set nd rfl (by first | exact Or.inl rfl | exact Or.inr rfl) de_int) (dss_cons (ds_setLc (own := [("row", 6)]) rfl nd rfl rfl (sw_true rfl rfl rfl rfl) (DI.dj (di_of de_var)) (by first | rfl | kernel_rfl) (fun _ _ _ _ _ => (dg_nm nd rfl (by first | exact Or.inl rfl | exact Or.inr rfl))) (fun _ _ _ _ _ => (dts_one (dt_cmp (op_eqP hu) eqD_ok (du_of (de_ix (du_of de_var) de_int)) (dv_of de_str) (by rfl)))) (fun _ _ _ _ _ => (de_ix (du_of de_var) de_int))) (dss_cons (ds_for hp rfl (di_of de_var) (dg_nm nd rfl (by first | exact Or.inl rfl | exact Or.inr rfl)) (dss_cons (ds_m F.slot_list_extend F.type_list_extend mt_extend md_ext (da_cons (de_do (do_lc (own := [("word", 7)]) rfl nd (DI.dj (di_of (de_ix (du_of de_var) de_int))) (by first | rfl | kernel_rfl) (fun _ _ _ _ _ => (dg_nm nd rfl (by first | exact Or.inl rfl | exact Or.inr rfl))) (fun _ _ _ _ _ => dts_nil) (fun _ _ _ _ _ => (de_tup (da_cons (de_ix (du_of de_var) de_int) (da_cons de_var da_nil)))))) da_nil)) (dss_one (ds_set nd rfl (by first | exact Or.inl rfl | exact Or.inr rfl) (de_max rfl rfl T.b_max de_var (de_len rfl T.b_len (dv_of (de_do (do_lc (own := [("path", 8)]) rfl nd (DI.dj (di_of de_var)) (by first | rfl | kernel_rfl) (fun _ _ _ _ _ => (dg_nm nd rfl (by first | exact Or.inl rfl | exact Or.inr rfl))) (fun _ _ _ _ _ => (dts_one (dt_cmp (op_eqP hu) eqD_ok (du_of (de_sl (du_of (de_ix (du_of de_var) de_int)) dp_none (dp_some (de_len rfl T.b_len (dv_of de_var))))) (dv_of de_var) (by rfl)))) (fun _ _ _ _ _ => de_var)))))))))) (dss_cons (ds_if (dt_not (dt_val (de_call (fd__law_same T) (hr.mono (by decide)) tk rfl (da_cons (de_do (do_lst (da_cons (de_call (fd_words_of T) (hr.mono (by decide)) tk rfl (da_cons de_var da_nil)) (da_cons (de_call (fd_places_of T) (hr.mono (by decide)) tk rfl (da_cons de_var da_nil)) da_nil)))) (da_cons (de_do (do_lst (da_cons (de_tupc rfl T.b_tuple dv_own) (da_cons (de_tupc rfl T.b_tuple (dv_of (de_do (do_lc (own := [("row", 6)]) rfl nd (DI.dj (di_of de_var)) (by first | rfl | kernel_rfl) (fun _ _ _ _ _ => (dg_nm nd rfl (by first | exact Or.inl rfl | exact Or.inr rfl))) (fun _ _ _ _ _ => (dts_one (dt_val (de_ix (du_of de_var) de_int)))) (fun _ _ _ _ _ => (de_ix (du_of de_var) de_int)))))) da_nil)))) da_nil))))) (dss_one (ds_ret de_bl)) dss_nil) (dss_one (ds_ret (de_call (fd__law_same T) (hr.mono (by decide)) tk rfl (da_cons (de_do (do_lst (da_cons (de_call (fd_letters_of T) (hr.mono (by decide)) tk rfl (da_cons de_var da_nil)) (da_cons (de_call (fd_depth_of T) (hr.mono (by decide)) tk rfl (da_cons de_var da_nil)) da_nil)))) (da_cons (de_do (do_lst (da_cons (de_len rfl T.b_len (dv_of (de_join de_str (dv_of (de_do (do_lc (own := [("one", 9)]) rfl nd dj_own (by first | rfl | kernel_rfl) (fun _ _ _ _ _ => (dg_nm nd rfl (by first | exact Or.inl rfl | exact Or.inr rfl))) (fun _ _ _ _ _ => dts_nil) (fun _ _ _ _ _ => (de_ix (du_of de_var) de_int)))))))) (da_cons de_var da_nil)))) da_nil))))))))))))
theorem sc__law_shows : C8.scC N__law_shows ["kind", "rows"] (defScope s__law_shows) = true := by kernel_rfl
theorem fd__law_shows (T : Top P w K mg base) : FdOk P w K mg base 7 "_law_shows" ["kind", "rows"] [] F__law_shows := by
  obtain ⟨f, fd, hm, D⟩ := T.f__law_shows
  exact fd_ok D sc__law_shows hm (fun _ _ _ _ _ _ us hl => match us, hl with | [_, _], _ => rfl) fun cdv A outer s H E hr => b__law_shows T hr
def N__law_nodes_hold : List Str := ["told", "due", "path", "node", "up", "line"]
noncomputable def B__law_nodes_hold : SS := (qSeq (qFor (sIt (sCall F__law_walk [] (sCons (sVar 1) sNil))) (.tp [(.nm 2), (.nm 3), (.nm 4)]) (qSeq (qIf (bNot (sTst (sCall F__law_same [] (sCons (sCall F_node_at [] (sCons (sVar 0) (sCons (sVar 2) sNil))) (sCons (sVar 3) sNil))))) (qRet (sC (.bl false))) qNil) (qIf (c2 (inB id) (sIx (sVar 3) (sC (.int 0))) (sV (sTup (sCons (sC (.str "table")) (sCons (sC (.str "choice")) (sCons (sC (.str "list")) sNil)))))) (qSeq (qSet 5 (sCall F__law_line [] (sCons (sVar 3) (sCons (sVar 4) sNil)))) (qIf (bNot (sTst (sCall F__law_same [] (sCons (sF (sLst (sCons (sCall F_branches_of [] (sCons (sVar 0) (sCons (sVar 2) sNil))) (sCons (sCall F_line_of [] (sCons (sVar 0) (sCons (sVar 2) sNil))) sNil)))) (sCons (sF (sLst (sCons (s1 lenD (sV (sVar 5))) (sCons (sVar 5) sNil)))) sNil))))) (qRet (sC (.bl false))) qNil)) qNil))) (qRet (sC (.bl true))))
noncomputable def F__law_nodes_hold : SemF := defF 2 6 B__law_nodes_hold
theorem b__law_nodes_hold {f : Addr} {cdv : Value} {A : Around} {outer : List Env} {s : Shared} {H : Hp} {E : XK} (T : Top P w K mg base) (hr : Room 7 (A.deeper (envOfC "_law_nodes_hold" (defScope s__law_nodes_hold) s.heap.objs.size f cdv))) : DSs (bodyX P w K mg base N__law_nodes_hold "_law_nodes_hold" (defScope s__law_nodes_hold) f cdv A outer s H E) (bodyW E) (defBody s__law_nodes_hold) B__law_nodes_hold := by
  have nd : N__law_nodes_hold.Nodup := by decide
  have hu := room_units hr
  have tk := body_takes (P := P) (w := w) (K := K) (mg := mg) (base := base) (N := N__law_nodes_hold) (x := "_law_nodes_hold") (sc := defScope s__law_nodes_hold) (f := f) (cdv := cdv) (A := A) (outer := outer) (s := s) (H := H) (E := E)
  have hp := body_passes (P := P) (w := w) (K := K) (mg := mg) (base := base) (N := N__law_nodes_hold) (x := "_law_nodes_hold") (sc := defScope s__law_nodes_hold) (f := f) (cdv := cdv) (A := A) (outer := outer) (s := s) (H := H) (E := E)
  unfold B__law_nodes_hold
  exact (dss_cons (ds_for hp rfl (di_of (de_call (fd__law_walk T) (hr.mono (by decide)) tk rfl (da_cons de_var da_nil))) (dg_tp rfl (dgs_cons (dg_nm nd rfl (by first | exact Or.inl rfl | exact Or.inr rfl)) (dgs_cons (dg_nm nd rfl (by first | exact Or.inl rfl | exact Or.inr rfl)) (dgs_cons (dg_nm nd rfl (by first | exact Or.inl rfl | exact Or.inr rfl)) dgs_nil)))) (dss_cons (ds_if (dt_not (dt_val (de_call (fd__law_same T) (hr.mono (by decide)) tk rfl (da_cons (de_call (fd_node_at T) (hr.mono (by decide)) tk rfl (da_cons de_var (da_cons de_var da_nil))) (da_cons de_var da_nil))))) (dss_one (ds_ret de_bl)) dss_nil) (dss_one (ds_if (dt_cmp (op_inP hu) inB_ok (du_of (de_ix (du_of de_var) de_int)) (dv_of (de_tup (da_cons de_str (da_cons de_str (da_cons de_str da_nil))))) (by rfl)) (dss_cons (ds_set nd rfl (by first | exact Or.inl rfl | exact Or.inr rfl) (de_call (fd__law_line T) (hr.mono (by decide)) tk rfl (da_cons de_var (da_cons de_var da_nil)))) (dss_one (ds_if (dt_not (dt_val (de_call (fd__law_same T) (hr.mono (by decide)) tk rfl (da_cons (de_do (do_lst (da_cons (de_call (fd_branches_of T) (hr.mono (by decide)) tk rfl (da_cons de_var (da_cons de_var da_nil))) (da_cons (de_call (fd_line_of T) (hr.mono (by decide)) tk rfl (da_cons de_var (da_cons de_var da_nil))) da_nil)))) (da_cons (de_do (do_lst (da_cons (de_len rfl T.b_len (dv_of de_var)) (da_cons de_var da_nil)))) da_nil))))) (dss_one (ds_ret de_bl)) dss_nil))) dss_nil)))) (dss_one (ds_ret de_bl)))
theorem sc__law_nodes_hold : C8.scC N__law_nodes_hold ["told", "due"] (defScope s__law_nodes_hold) = true := by kernel_rfl
theorem fd__law_nodes_hold (T : Top P w K mg base) : FdOk P w K mg base 8 "_law_nodes_hold" ["told", "due"] [] F__law_nodes_hold := by
  obtain ⟨f, fd, hm, D⟩ := T.f__law_nodes_hold
  exact fd_ok D sc__law_nodes_hold hm (fun _ _ _ _ _ _ us hl => match us, hl with | [_, _], _ => rfl) fun cdv A outer s H E hr => b__law_nodes_hold T hr
def N__law_refused : List Str := ["kind", "path", "part", "e"]
noncomputable def B__law_refused : SS := (qTryAs isC_KeysinlineError 3 (qRet (sCall F_put_at [] (sCons (sVar 0) (sCons (sVar 1) (sCons (sVar 2) sNil))))) (qSeq (qIf (bAnd (sTst (sIsE isC_BadKind 3)) (bNot (sTst (sIsE isC_BadPath 3)))) (qRetO (sLst (sCons (sC (.str "BadKind")) (sCons (sExF okF_path 3 "path") sNil)))) qNil) (qRetO (sLst (sCons (sC (.str "another")) sNil)))))
noncomputable def F__law_refused : SemF := defF 3 4 B__law_refused
theorem b__law_refused {f : Addr} {cdv : Value} {A : Around} {outer : List Env} {s : Shared} {H : Hp} {E : XK} (T : Top P w K mg base) (hr : Room 6 (A.deeper (envOfC "_law_refused" (defScope s__law_refused) s.heap.objs.size f cdv))) : DSs (bodyX P w K mg base N__law_refused "_law_refused" (defScope s__law_refused) f cdv A outer s H E) (bodyW E) (defBody s__law_refused) B__law_refused := by
  have nd : N__law_refused.Nodup := by decide
  have hu := room_units hr
  have tk := body_takes (P := P) (w := w) (K := K) (mg := mg) (base := base) (N := N__law_refused) (x := "_law_refused") (sc := defScope s__law_refused) (f := f) (cdv := cdv) (A := A) (outer := outer) (s := s) (H := H) (E := E)
  have hp := body_passes (P := P) (w := w) (K := K) (mg := mg) (base := base) (N := N__law_refused) (x := "_law_refused") (sc := defScope s__law_refused) (f := f) (cdv := cdv) (A := A) (outer := outer) (s := s) (H := H) (E := E)
  obtain ⟨C_BadKind, hC_BadKind, hS_BadKind, hI_BadKind⟩ := T.is_BadKind
  obtain ⟨C_BadPath, hC_BadPath, hS_BadPath, hI_BadPath⟩ := T.is_BadPath
  obtain ⟨C_KeysinlineError, hC_KeysinlineError, hS_KeysinlineError, hI_KeysinlineError⟩ := T.is_KeysinlineError
  unfold B__law_refused
  exact (dss_one (ds_tryAs (i := 3) rfl rfl rfl nd rfl rfl ⟨rfl, by decide, .inl hC_KeysinlineError⟩ tk hS_KeysinlineError (fun W1 pn1 xe1 tk hp => (dss_one (ds_ret (de_call (fd_put_at T) (hr.mono (by decide)) tk rfl (da_cons de_var (da_cons de_var (da_cons de_var da_nil))))))) (fun a oe pn hv => (dss_cons (ds_if (DW.dt (dw_and (dt_val (de_isE hv hC_BadKind hI_BadKind rfl T.b_isinstance rfl rfl (by first | exact Or.inl rfl | exact Or.inr (Or.inl rfl) | exact Or.inr (Or.inr rfl)))) (dw_and1 (dt_not (dt_val (de_isE hv hC_BadPath hI_BadPath rfl T.b_isinstance rfl rfl (by first | exact Or.inl rfl | exact Or.inr (Or.inl rfl) | exact Or.inr (Or.inr rfl)))))))) (dss_one (ds_retO (do_lst (da_cons de_str (da_cons (de_exF hv (T.okF_path) rfl (by first | exact Or.inl rfl | exact Or.inr (Or.inl rfl) | exact Or.inr (Or.inr rfl))) da_nil))))) dss_nil) (dss_one (ds_retO (do_lst (da_cons de_str da_nil))))))))
theorem sc__law_refused : C8.scC N__law_refused ["kind", "path", "part"] (defScope s__law_refused) = true := by kernel_rfl
theorem fd__law_refused (T : Top P w K mg base) : FdOk P w K mg base 7 "_law_refused" ["kind", "path", "part"] [] F__law_refused := by
  obtain ⟨f, fd, hm, D⟩ := T.f__law_refused
  exact fd_ok D sc__law_refused hm (fun _ _ _ _ _ _ us hl => match us, hl with | [_, _, _], _ => rfl) fun cdv A outer s H E hr => b__law_refused T hr
def N_law : List Str := ["script", "store", "great", "kind", "part", "small", "path", "old", "up", "apart", "other", "bad", "spoilt", "rows", "inner", "due", "told", "both", "row"]
noncomputable def B_law : SS := (qSeq (qSet 1 (sNew (sCallO F__law_store [] (sCons (sVar 0) sNil)))) (qSeq (qSet 2 (sB (c2 eqD (sCall F__law_take [] (sCons (sVar 1) (sCons (sC (.int 6)) sNil))) (sV (sC (.int 0)))))) (qSeq (qSet 3 (sCall F__law_any_kind [] (sCons (sVar 1) (sCons (sIf (sTst (sVar 2)) (sC (.int 18)) (sC (.int 12))) (sCons (sIf (sTst (sVar 2)) (sC (.int 36)) (sC (.int 24))) (sCons (sC (.int 2)) sNil)))))) (qSeq (qSet 4 (sCall F__law_any_kind [] (sCons (sVar 1) (sCons (sC (.int 6)) (sCons (sC (.int 20)) (sCons (sC (.int 1)) sNil)))))) (qSeq (qSet 5 (sCall F__law_any_kind [] (sCons (sVar 1) (sCons (sC (.int 2)) (sCons (sC (.int 4)) (sCons (sC (.int 0)) sNil)))))) (qSeq (qAsg (.tp [(.nm 6), (.nm 7), (.nm 8)]) (sCall F__law_pick [] (sCons (sVar 1) (sCons (sCall F__law_walk [] (sCons (sVar 3) sNil)) sNil)))) (qSeq (qSet 9 (sF (sLc (sIt (sCall F__law_walk [] (sCons (sVar 3) sNil))) (.nm 18) (bAnd (c2 neD (sSl (sIx (sVar 18) (sC (.int 0))) pNone (pSome (s1 lenD (sV (sVar 6))))) (sV (sVar 6))) (c2 neD (sSl (sVar 6) pNone (pSome (s1 lenD (sV (sIx (sVar 18) (sC (.int 0))))))) (sV (sIx (sVar 18) (sC (.int 0)))))) (sIx (sVar 18) (sC (.int 0))) [18]))) (qSeq (qSet 10 (sIf (c2 neD (sVar 9) (sV (sF (sLst sNil)))) (sCall F__law_pick [] (sCons (sVar 1) (sCons (sVar 9) sNil))) (sC .non))) (qSeq (qSet 11 (sF (sLst (sCons (sTup (sCons (sC (.str "table")) (sCons (sTup sNil) sNil))) (sCons (sTup (sCons (sC (.str "row")) (sCons (sF (sLst (sCons (sVar 4) sNil))) sNil))) (sCons (sTup (sCons (sC (.str "turned")) (sCons (sVar 4) (sCons (sVar 4) sNil)))) (sCons (sC .non) (sCons (sTup (sCons (sC (.str "list")) (sCons (sC (.str "a")) (sCons (sC (.str "b")) (sCons (sC (.str "up")) (sCons (sVar 4) sNil)))))) sNil)))))))) (qSeq (qSet 11 (sCall F__law_pick [] (sCons (sVar 1) (sCons (sVar 11) sNil)))) (qSeq (qSet 12 (sCall F__law_pick [] (sCons (sVar 1) (sCons (sF (sLst (sCons (sTup (sCons (sC (.str "row")) (sCons (sTup (sCons (sVar 4) (sCons (sVar 11) sNil))) sNil))) (sCons (sTup (sCons (sC (.str "choice")) (sCons (sTup (sCons (sTup (sCons (sC (.str "a")) (sCons (sC (.str "")) (sCons (sVar 4) sNil)))) (sCons (sTup (sCons (sC (.str "b")) (sCons (sC (.str "h")) (sCons (sVar 11) sNil)))) sNil))) sNil))) sNil)))) sNil)))) (qSeq (qSet 13 (sCall F__law_lists [] (sCons (sVar 3) sNil))) (qSeq (qSet 14 (sCall F__law_lists [] (sCons (sVar 4) sNil))) (qSeq (qSet 15 (sCall F__law_put [] (sCons (sVar 3) (sCons (sVar 6) (sCons (sVar 4) sNil))))) (qSeq (qIf (bOr (bNot (sTst (sCall F__law_shows [] (sCons (sVar 3) (sCons (sVar 13) sNil))))) (bOr (bNot (sTst (sCall F__law_shows [] (sCons (sVar 4) (sCons (sVar 14) sNil))))) (bNot (sTst (sCall F__law_nodes_hold [] (sCons (sVar 3) (sCons (sVar 3) sNil))))))) (qRet (sC (.bl false))) qNil) (qSeq (qSet 16 (sCall F_put_at [] (sCons (sVar 3) (sCons (sVar 6) (sCons (sVar 4) sNil))))) (qSeq (qIf (bOr (bNot (sTst (sCall F__law_same [] (sCons (sVar 16) (sCons (sVar 15) sNil))))) (bNot (sTst (sCall F__law_shows [] (sCons (sVar 16) (sCons (sCall F__law_spliced [] (sCons (sVar 13) (sCons (sVar 6) (sCons (sVar 8) (sCons (sVar 14) sNil))))) sNil)))))) (qRet (sC (.bl false))) qNil) (qSeq (qIf (bOr (bNot (sTst (sCall F__law_nodes_hold [] (sCons (sVar 16) (sCons (sVar 15) sNil))))) (bNot (sTst (sCall F__law_same [] (sCons (sCall F_put_at [] (sCons (sVar 16) (sCons (sVar 6) (sCons (sVar 7) sNil)))) (sCons (sVar 3) sNil)))))) (qRet (sC (.bl false))) qNil) (qSeq (qIf (bNot (sTst (sCall F__law_same [] (sCons (sF (sLst (sCons (sCall F_put_at [] (sCons (sVar 3) (sCons (sTup sNil) (sCons (sVar 4) sNil)))) (sCons (sCall F_put_at [] (sCons (sVar 3) (sCons (sVar 6) (sCons (sVar 7) sNil)))) sNil)))) (sCons (sF (sLst (sCons (sVar 4) (sCons (sVar 3) sNil)))) sNil))))) (qRet (sC (.bl false))) qNil) (qSeq (qIf (c2 (isNB not) (sVar 10) (sV (sC .non))) (qSeq (qSet 17 (sCall F__law_put [] (sCons (sVar 15) (sCons (sVar 10) (sCons (sVar 5) sNil))))) (qIf (bNot (sTst (sCall F__law_same [] (sCons (sF (sLst (sCons (sCall F_put_at [] (sCons (sVar 16) (sCons (sVar 10) (sCons (sVar 5) sNil)))) (sCons (sCall F_put_at [] (sCons (sCall F_put_at [] (sCons (sVar 3) (sCons (sVar 10) (sCons (sVar 5) sNil)))) (sCons (sVar 6) (sCons (sVar 4) sNil)))) sNil)))) (sCons (sF (sLst (sCons (sVar 17) (sCons (sVar 17) sNil)))) sNil))))) (qRet (sC (.bl false))) qNil)) qNil) (qSeq (qSet 16 (sF (sLst (sCons (sCall F__law_refused [] (sCons (sVar 3) (sCons (sVar 6) (sCons (sVar 12) sNil)))) (sCons (sCall F__law_refused [] (sCons (sVar 3) (sCons (sVar 6) (sCons (sVar 11) sNil)))) sNil))))) (qRet (sCall F__law_same [] (sCons (sVar 16) (sCons (sF (sLst (sCons (sF (sLst (sCons (sC (.str "BadKind")) (sCons (sTup (sCons (sC (.int 1)) sNil)) sNil)))) (sCons (sF (sLst (sCons (sC (.str "BadKind")) (sCons (sTup sNil) sNil)))) sNil)))) sNil)))))))))))))))))))))))))
noncomputable def F_law : SemF := defF 1 19 B_law
theorem b_law {f : Addr} {cdv : Value} {A : Around} {outer : List Env} {s : Shared} {H : Hp} {E : XK} (T : Top P w K mg base) (hr : Room 37 (A.deeper (envOfC "law" (defScope s_law) s.heap.objs.size f cdv))) : DSs (bodyX P w K mg base N_law "law" (defScope s_law) f cdv A outer s H E) (bodyW E) (defBody s_law) B_law := by
  have nd : N_law.Nodup := by decide
  have hu := room_units hr
  have tk := body_takes (P := P) (w := w) (K := K) (mg := mg) (base := base) (N := N_law) (x := "law") (sc := defScope s_law) (f := f) (cdv := cdv) (A := A) (outer := outer) (s := s) (H := H) (E := E)
  have hp := body_passes (P := P) (w := w) (K := K) (mg := mg) (base := base) (N := N_law) (x := "law") (sc := defScope s_law) (f := f) (cdv := cdv) (A := A) (outer := outer) (s := s) (H := H) (E := E)
  unfold B_law
  exact (dss_cons (ds_set nd rfl (by first | exact Or.inl rfl | exact Or.inr rfl) (de_new (do_call (fd__law_store T) (hr.mono (by decide)) tk rfl (da_cons de_var da_nil)))) (dss_cons (ds_set nd rfl (by first | exact Or.inl rfl | exact Or.inr rfl) (de_cmp (op_eqP hu) eqD_ok (du_of (de_call (fd__law_take T) (hr.mono (by decide)) tk rfl (da_cons de_var (da_cons de_int da_nil)))) (dv_of de_int) (by rfl))) (dss_cons (ds_set nd rfl (by first | exact Or.inl rfl | exact Or.inr rfl) (de_call (fd__law_any_kind T) (hr.mono (by decide)) tk rfl (da_cons de_var (da_cons (de_if (dt_val de_var) de_int de_int) (da_cons (de_if (dt_val de_var) de_int de_int) (da_cons de_int da_nil)))))) (dss_cons (ds_set nd rfl (by first | exact Or.inl rfl | exact Or.inr rfl) (de_call (fd__law_any_kind T) (hr.mono (by decide)) tk rfl (da_cons de_var (da_cons de_int (da_cons de_int (da_cons de_int da_nil)))))) (dss_cons (ds_set nd rfl (by first | exact Or.inl rfl | exact Or.inr rfl) (de_call (fd__law_any_kind T) (hr.mono (by decide)) tk rfl (da_cons de_var (da_cons de_int (da_cons de_int (da_cons de_int da_nil)))))) (dss_cons (ds_asg (de_call (fd__law_pick T) (hr.mono (by decide)) tk rfl (da_cons de_var (da_cons (de_call (fd__law_walk T) (hr.mono (by decide)) tk rfl (da_cons de_var da_nil)) da_nil))) (dg_tp rfl (dgs_cons (dg_nm nd rfl (by first | exact Or.inl rfl | exact Or.inr rfl)) (dgs_cons (dg_nm nd rfl (by first | exact Or.inl rfl | exact Or.inr rfl)) (dgs_cons (dg_nm nd rfl (by first | exact Or.inl rfl | exact Or.inr rfl)) dgs_nil))))) (dss_cons (ds_setLc (own := [("row", 18)]) rfl nd rfl rfl (sw_true rfl rfl rfl rfl) (DI.dj (di_of (de_call (fd__law_walk T) (hr.mono (by decide)) tk rfl (da_cons de_var da_nil)))) (by first | rfl | kernel_rfl) (fun _ _ _ _ _ => (dg_nm nd rfl (by first | exact Or.inl rfl | exact Or.inr rfl))) (fun _ _ _ _ _ => (dts_one (DW.dt (dw_and (dt_cmp (op_neP hu) neD_ok (du_of (de_sl (du_of (de_ix (du_of de_var) de_int)) dp_none (dp_some (de_len rfl T.b_len (dv_of de_var))))) (dv_of de_var) (by rfl)) (dw_and1 (dt_cmp (op_neP hu) neD_ok (du_of (de_sl (du_of de_var) dp_none (dp_some (de_len rfl T.b_len (dv_of (de_ix (du_of de_var) de_int)))))) (dv_of (de_ix (du_of de_var) de_int)) (by rfl))))))) (fun _ _ _ _ _ => (de_ix (du_of de_var) de_int))) (dss_cons (ds_set nd rfl (by first | exact Or.inl rfl | exact Or.inr rfl) (de_if (dt_cmp (op_neP hu) neD_ok (du_of de_var) (dv_of (de_do (do_lst da_nil))) (by rfl)) (de_call (fd__law_pick T) (hr.mono (by decide)) tk rfl (da_cons de_var (da_cons de_var da_nil))) de_non)) (dss_cons (ds_set nd rfl (by first | exact Or.inl rfl | exact Or.inr rfl) (de_do (do_lst (da_cons (de_tup (da_cons de_str (da_cons (de_tup da_nil) da_nil))) (da_cons (de_tup (da_cons de_str (da_cons (de_do (do_lst (da_cons de_var da_nil))) da_nil))) (da_cons (de_tup (da_cons de_str (da_cons de_var (da_cons de_var da_nil)))) (da_cons de_non (da_cons (de_tup (da_cons de_str (da_cons de_str (da_cons de_str (da_cons de_str (da_cons de_var da_nil)))))) da_nil)))))))) (dss_cons (ds_set nd rfl (by first | exact Or.inl rfl | exact Or.inr rfl) (de_call (fd__law_pick T) (hr.mono (by decide)) tk rfl (da_cons de_var (da_cons de_var da_nil)))) (dss_cons (ds_set nd rfl (by first | exact Or.inl rfl | exact Or.inr rfl) (de_call (fd__law_pick T) (hr.mono (by decide)) tk rfl (da_cons de_var (da_cons (de_do (do_lst (da_cons (de_tup (da_cons de_str (da_cons (de_tup (da_cons de_var (da_cons de_var da_nil))) da_nil))) (da_cons (de_tup (da_cons de_str (da_cons (de_tup (da_cons (de_tup (da_cons de_str (da_cons de_str (da_cons de_var da_nil)))) (da_cons (de_tup (da_cons de_str (da_cons de_str (da_cons de_var da_nil)))) da_nil))) da_nil))) da_nil)))) da_nil)))) (dss_cons (ds_set nd rfl (by first | exact Or.inl rfl | exact Or.inr rfl) (de_call (fd__law_lists T) (hr.mono (by decide)) tk rfl (da_cons de_var da_nil))) (dss_cons (ds_set nd rfl (by first | exact Or.inl rfl | exact Or.inr rfl) (de_call (fd__law_lists T) (hr.mono (by decide)) tk rfl (da_cons de_var da_nil))) (dss_cons (ds_set nd rfl (by first | exact Or.inl rfl | exact Or.inr rfl) (de_call (fd__law_put T) (hr.mono (by decide)) tk rfl (da_cons de_var (da_cons de_var (da_cons de_var da_nil))))) (dss_cons (ds_if (DW.dt (dw_or (dt_not (dt_val (de_call (fd__law_shows T) (hr.mono (by decide)) tk rfl (da_cons de_var (da_cons de_var da_nil))))) (dw_or (dt_not (dt_val (de_call (fd__law_shows T) (hr.mono (by decide)) tk rfl (da_cons de_var (da_cons de_var da_nil))))) (dw_or1 (dt_not (dt_val (de_call (fd__law_nodes_hold T) (hr.mono (by decide)) tk rfl (da_cons de_var (da_cons de_var da_nil))))))))) (dss_one (ds_ret de_bl)) dss_nil) (dss_cons (ds_set nd rfl (by first | exact Or.inl rfl | exact Or.inr rfl) (de_call (fd_put_at T) (hr.mono (by decide)) tk rfl (da_cons de_var (da_cons de_var (da_cons de_var da_nil))))) (dss_cons (ds_if (DW.dt (dw_or (dt_not (dt_val (de_call (fd__law_same T) (hr.mono (by decide)) tk rfl (da_cons de_var (da_cons de_var da_nil))))) (dw_or1 (dt_not (dt_val (de_call (fd__law_shows T) (hr.mono (by decide)) tk rfl (da_cons de_var (da_cons (de_call (fd__law_spliced T) (hr.mono (by decide)) tk rfl (da_cons de_var (da_cons de_var (da_cons de_var (da_cons de_var da_nil))))) da_nil)))))))) (dss_one (ds_ret de_bl)) dss_nil) (dss_cons (ds_if (DW.dt (dw_or (dt_not (dt_val (de_call (fd__law_nodes_hold T) (hr.mono (by decide)) tk rfl (da_cons de_var (da_cons de_var da_nil))))) (dw_or1 (dt_not (dt_val (de_call (fd__law_same T) (hr.mono (by decide)) tk rfl (da_cons (de_call (fd_put_at T) (hr.mono (by decide)) tk rfl (da_cons de_var (da_cons de_var (da_cons de_var da_nil)))) (da_cons de_var da_nil)))))))) (dss_one (ds_ret de_bl)) dss_nil) (dss_cons (ds_if (dt_not (dt_val (de_call (fd__law_same T) (hr.mono (by decide)) tk rfl (da_cons (de_do (do_lst (da_cons (de_call (fd_put_at T) (hr.mono (by decide)) tk rfl (da_cons de_var (da_cons (de_tup da_nil) (da_cons de_var da_nil)))) (da_cons (de_call (fd_put_at T) (hr.mono (by decide)) tk rfl (da_cons de_var (da_cons de_var (da_cons de_var da_nil)))) da_nil)))) (da_cons (de_do (do_lst (da_cons de_var (da_cons de_var da_nil)))) da_nil))))) (dss_one (ds_ret de_bl)) dss_nil) (dss_cons (ds_if (dt_cmp op_notN notN_ok (du_of de_var) (dv_of de_non) (by rfl)) (dss_cons (ds_set nd rfl (by first | exact Or.inl rfl | exact Or.inr rfl) (de_call (fd__law_put T) (hr.mono (by decide)) tk rfl (da_cons de_var (da_cons de_var (da_cons de_var da_nil))))) (dss_one (ds_if (dt_not (dt_val (de_call (fd__law_same T) (hr.mono (by decide)) tk rfl (da_cons (de_do (do_lst (da_cons (de_call (fd_put_at T) (hr.mono (by decide)) tk rfl (da_cons de_var (da_cons de_var (da_cons de_var da_nil)))) (da_cons (de_call (fd_put_at T) (hr.mono (by decide)) tk rfl (da_cons (de_call (fd_put_at T) (hr.mono (by decide)) tk rfl (da_cons de_var (da_cons de_var (da_cons de_var da_nil)))) (da_cons de_var (da_cons de_var da_nil)))) da_nil)))) (da_cons (de_do (do_lst (da_cons de_var (da_cons de_var da_nil)))) da_nil))))) (dss_one (ds_ret de_bl)) dss_nil))) dss_nil) (dss_cons (ds_set nd rfl (by first | exact Or.inl rfl | exact Or.inr rfl) (de_do (do_lst (da_cons (de_call (fd__law_refused T) (hr.mono (by decide)) tk rfl (da_cons de_var (da_cons de_var (da_cons de_var da_nil)))) (da_cons (de_call (fd__law_refused T) (hr.mono (by decide)) tk rfl (da_cons de_var (da_cons de_var (da_cons de_var da_nil)))) da_nil))))) (dss_one (ds_ret (de_call (fd__law_same T) (hr.mono (by decide)) tk rfl (da_cons de_var (da_cons (de_do (do_lst (da_cons (de_do (do_lst (da_cons de_str (da_cons (de_tup (da_cons de_int da_nil)) da_nil)))) (da_cons (de_do (do_lst (da_cons de_str (da_cons (de_tup da_nil) da_nil)))) da_nil)))) da_nil))))))))))))))))))))))))))
end
end KG
set_option Elab.async false
set_option linter.all false
set_option maxRecDepth 100000
set_option maxHeartbeats 1000000
set_option autoImplicit false
namespace KG
open PySem PySem.Spec PyProof.Rows L2 Ds KH
section
variable {P : Program} {w w' : World} {K : PySem.W.Frag} {mg : Str → Option Value} {base h : Heap}
theorem top_BadKind (X : K.In h) (G : h.Ns mainGlobals mg) (c : He.SaysX fa fn [] [] exK w' h K) (e : ExK K (He.ga K "BadKind")) : ExcOk P w K mg base "BadKind" ["path"] := by
  have n0 : PySem.W.findIn K (.ref (He.ga K "BadKind")) "path" = some none := He.noat_ok (c.t.d.fact 78 (f := .noat "BadKind" "path") rfl)
  have me := He.meth_ok (c.t.d.fact 77 (f := .meth "BadKind" "__init__") rfl)
  obtain ⟨fd, D⟩ := c.t.d.def_ 51 (d := d_BadKind_init) rfl
  have S : C8.scC ["self", "path"] ["self", "path"] (defScope s_BadKind_init) = true := by kernel_rfl
  have F1 : FnOk P w K mg base (L2.CX P w) 1 (He.ma K (He.ga K "BadKind") "__init__") fd ["self", "path"] (spInit (He.ga K "BadKind") ["path"]) := by
    refine FunD.ok D (C8.fnScope_by S) (fun vs H Q E h => ?_) fun cdv A outer s H vs Q E hr h => ⟨_, (pss_one (ps_ost (pe_var (i := 0) rfl (Or.inl rfl)) (pe_var (i := 1) rfl (Or.inl rfl)))), init1 rfl e.o n0 h⟩
    obtain ⟨a, ys, rfl, hl, _⟩ := h
    rw [List.length_cons, hl]; rfl
  exact ⟨_, _, fd, ["self", "path"], He.glo_ok X G (c.t.d.fact 74 (f := .glo "BadKind") rfl), e, fun f hf => by
    simp only [List.mem_cons, List.not_mem_nil, or_false] at hf
    rcases hf with rfl
    exact n0, me.1, by
    exact beq_iff_eq.mp me.fn, F1, FunD.bindsN D (fun _ _ _ _ _ _ us hl => match us, hl with | [_, _], _ => rfl)⟩
theorem top_BadPath (X : K.In h) (G : h.Ns mainGlobals mg) (c : He.SaysX fa fn [] [] exK w' h K) (e : ExK K (He.ga K "BadPath")) : ExcOk P w K mg base "BadPath" ["path"] := by
  have n0 : PySem.W.findIn K (.ref (He.ga K "BadPath")) "path" = some none := He.noat_ok (c.t.d.fact 80 (f := .noat "BadPath" "path") rfl)
  have me := He.meth_ok (c.t.d.fact 79 (f := .meth "BadPath" "__init__") rfl)
  obtain ⟨fd, D⟩ := c.t.d.def_ 52 (d := d_BadPath_init) rfl
  have S : C8.scC ["self", "path"] ["self", "path"] (defScope s_BadPath_init) = true := by kernel_rfl
  have F1 : FnOk P w K mg base (L2.CX P w) 1 (He.ma K (He.ga K "BadPath") "__init__") fd ["self", "path"] (spInit (He.ga K "BadPath") ["path"]) := by
    refine FunD.ok D (C8.fnScope_by S) (fun vs H Q E h => ?_) fun cdv A outer s H vs Q E hr h => ⟨_, (pss_one (ps_ost (pe_var (i := 0) rfl (Or.inl rfl)) (pe_var (i := 1) rfl (Or.inl rfl)))), init1 rfl e.o n0 h⟩
    obtain ⟨a, ys, rfl, hl, _⟩ := h
    rw [List.length_cons, hl]; rfl
  exact ⟨_, _, fd, ["self", "path"], He.glo_ok X G (c.t.d.fact 75 (f := .glo "BadPath") rfl), e, fun f hf => by
    simp only [List.mem_cons, List.not_mem_nil, or_false] at hf
    rcases hf with rfl
    exact n0, me.1, by
    exact beq_iff_eq.mp me.fn, F1, FunD.bindsN D (fun _ _ _ _ _ _ us hl => match us, hl with | [_, _], _ => rfl)⟩
theorem top_TooMany (X : K.In h) (G : h.Ns mainGlobals mg) (c : He.SaysX fa fn [] [] exK w' h K) (e : ExK K (He.ga K "TooMany")) : ExcOk P w K mg base "TooMany" ["what", "most"] := by
  have n0 : PySem.W.findIn K (.ref (He.ga K "TooMany")) "what" = some none := He.noat_ok (c.t.d.fact 82 (f := .noat "TooMany" "what") rfl)
  have n1 : PySem.W.findIn K (.ref (He.ga K "TooMany")) "most" = some none := He.noat_ok (c.t.d.fact 83 (f := .noat "TooMany" "most") rfl)
  have me := He.meth_ok (c.t.d.fact 81 (f := .meth "TooMany" "__init__") rfl)
  obtain ⟨fd, D⟩ := c.t.d.def_ 53 (d := d_TooMany_init) rfl
  have S : C8.scC ["self", "what", "most"] ["self", "what", "most"] (defScope s_TooMany_init) = true := by kernel_rfl
  have F1 : FnOk P w K mg base (L2.CX P w) 1 (He.ma K (He.ga K "TooMany") "__init__") fd ["self", "what", "most"] (spInit (He.ga K "TooMany") ["what", "most"]) := by
    refine FunD.ok D (C8.fnScope_by S) (fun vs H Q E h => ?_) fun cdv A outer s H vs Q E hr h => ⟨_, (pss_cons (ps_ost (pe_var (i := 0) rfl (Or.inl rfl)) (pe_var (i := 1) rfl (Or.inl rfl))) (pss_one (ps_ost (pe_var (i := 0) rfl (Or.inl rfl)) (pe_var (i := 2) rfl (Or.inl rfl))))), init2 rfl e.o n0 n1 h⟩
    obtain ⟨a, ys, rfl, hl, _⟩ := h
    rw [List.length_cons, hl]; rfl
  exact ⟨_, _, fd, ["self", "what", "most"], He.glo_ok X G (c.t.d.fact 76 (f := .glo "TooMany") rfl), e, fun f hf => by
    simp only [List.mem_cons, List.not_mem_nil, or_false] at hf
    rcases hf with rfl | rfl
    · exact n0
    · exact n1, me.1, by
    exact beq_iff_eq.mp me.fn, F1, FunD.bindsN D (fun _ _ _ _ _ _ us hl => match us, hl with | [_, _, _], _ => rfl)⟩
theorem top_of (X : K.In h) (G : h.Ns mainGlobals mg) (c : He.SaysX fa fn [] [] exK w' h K) : Top P w K mg base := by
  have m := c.more
  unfold exK at m
  simp only [Bool.and_eq_true, decide_eq_true_eq] at m
  obtain ⟨e_BadKind, e_BadPath, e_TooMany, k_BadKind_BadKind, k_BadKind_BadPath, k_BadKind_KeysinlineError, k_BadPath_BadKind, k_BadPath_BadPath, k_BadPath_KeysinlineError, k_TooMany_BadKind, k_TooMany_BadPath, k_TooMany_KeysinlineError, _⟩ := m
  have e_BadKind := excAllB_ok e_BadKind
  have e_BadPath := excAllB_ok e_BadPath
  have e_TooMany := excAllB_ok e_TooMany
  have g_BadKind := He.glo_ok X G (c.t.d.fact 74 (f := .glo "BadKind") rfl)
  have g_BadPath := He.glo_ok X G (c.t.d.fact 75 (f := .glo "BadPath") rfl)
  have g_TooMany := He.glo_ok X G (c.t.d.fact 76 (f := .glo "TooMany") rfl)
  refine {
    b_ValueError := He.free_ok X G (c.t.d.fact 51 (f := .free "ValueError") rfl)
    b_abs := He.free_ok X G (c.t.d.fact 52 (f := .free "abs") rfl)
    b_all := He.free_ok X G (c.t.d.fact 53 (f := .free "all") rfl)
    b_bool := He.free_ok X G (c.t.d.fact 54 (f := .free "bool") rfl)
    b_dict := He.free_ok X G (c.t.d.fact 55 (f := .free "dict") rfl)
    b_int := He.free_ok X G (c.t.d.fact 56 (f := .free "int") rfl)
    b_isinstance := He.free_ok X G (c.t.d.fact 57 (f := .free "isinstance") rfl)
    b_len := He.free_ok X G (c.t.d.fact 58 (f := .free "len") rfl)
    b_list := He.free_ok X G (c.t.d.fact 59 (f := .free "list") rfl)
    b_max := He.free_ok X G (c.t.d.fact 60 (f := .free "max") rfl)
    b_min := He.free_ok X G (c.t.d.fact 61 (f := .free "min") rfl)
    b_range := He.free_ok X G (c.t.d.fact 62 (f := .free "range") rfl)
    b_set := He.free_ok X G (c.t.d.fact 63 (f := .free "set") rfl)
    b_sorted := He.free_ok X G (c.t.d.fact 64 (f := .free "sorted") rfl)
    b_str := He.free_ok X G (c.t.d.fact 65 (f := .free "str") rfl)
    b_tuple := He.free_ok X G (c.t.d.fact 66 (f := .free "tuple") rfl)
    c_LETTERS := He.str_ok X G (c.t.d.fact 67 (f := .str "LETTERS" "abcdefgh") rfl)
    c_MOST_NODES := He.int_ok X G (c.t.d.fact 68 (f := .int "MOST_NODES" 24) rfl)
    c_MOST_LETTERS := He.int_ok X G (c.t.d.fact 69 (f := .int "MOST_LETTERS" 60) rfl)
    c_MOST_LISTS := He.int_ok X G (c.t.d.fact 70 (f := .int "MOST_LISTS" 3) rfl)
    c_NAME_STARTS := He.str_ok X G (c.t.d.fact 71 (f := .str "NAME_STARTS" "abcdefghijklmnopqrstuvwxyz") rfl)
    c_NAME_SIGNS := He.str_ok X G (c.t.d.fact 72 (f := .str "NAME_SIGNS" "abcdefghijklmnopqrstuvwxyz0123456789") rfl)
    f_good_name := let ⟨fd, D⟩ := c.t.d.def_ 0 (d := d_good_name) rfl; ⟨_, fd, He.glo_ok X G (c.t.d.fact 0 (f := .glo "good_name") rfl), D⟩
    f_good_word := let ⟨fd, D⟩ := c.t.d.def_ 1 (d := d_good_word) rfl; ⟨_, fd, He.glo_ok X G (c.t.d.fact 1 (f := .glo "good_word") rfl), D⟩
    f_tuple_within := let ⟨fd, D⟩ := c.t.d.def_ 2 (d := d_tuple_within) rfl; ⟨_, fd, He.glo_ok X G (c.t.d.fact 2 (f := .glo "tuple_within") rfl), D⟩
    f_good_entries := let ⟨fd, D⟩ := c.t.d.def_ 3 (d := d_good_entries) rfl; ⟨_, fd, He.glo_ok X G (c.t.d.fact 3 (f := .glo "good_entries") rfl), D⟩
    f_good_node := let ⟨fd, D⟩ := c.t.d.def_ 4 (d := d_good_node) rfl; ⟨_, fd, He.glo_ok X G (c.t.d.fact 4 (f := .glo "good_node") rfl), D⟩
    f_inner_kinds := let ⟨fd, D⟩ := c.t.d.def_ 5 (d := d_inner_kinds) rfl; ⟨_, fd, He.glo_ok X G (c.t.d.fact 5 (f := .glo "inner_kinds") rfl), D⟩
    f_own_words := let ⟨fd, D⟩ := c.t.d.def_ 6 (d := d_own_words) rfl; ⟨_, fd, He.glo_ok X G (c.t.d.fact 6 (f := .glo "own_words") rfl), D⟩
    f_kind_sizes := let ⟨fd, D⟩ := c.t.d.def_ 7 (d := d_kind_sizes) rfl; ⟨_, fd, He.glo_ok X G (c.t.d.fact 7 (f := .glo "kind_sizes") rfl), D⟩
    f_check_kind := let ⟨fd, D⟩ := c.t.d.def_ 8 (d := d_check_kind) rfl; ⟨_, fd, He.glo_ok X G (c.t.d.fact 8 (f := .glo "check_kind") rfl), D⟩
    f_other_direction := let ⟨fd, D⟩ := c.t.d.def_ 9 (d := d_other_direction) rfl; ⟨_, fd, He.glo_ok X G (c.t.d.fact 9 (f := .glo "other_direction") rfl), D⟩
    f_node_rows := let ⟨fd, D⟩ := c.t.d.def_ 10 (d := d_node_rows) rfl; ⟨_, fd, He.glo_ok X G (c.t.d.fact 10 (f := .glo "node_rows") rfl), D⟩
    f_nodes := let ⟨fd, D⟩ := c.t.d.def_ 11 (d := d_nodes) rfl; ⟨_, fd, He.glo_ok X G (c.t.d.fact 11 (f := .glo "nodes") rfl), D⟩
    f_node_or_none := let ⟨fd, D⟩ := c.t.d.def_ 12 (d := d_node_or_none) rfl; ⟨_, fd, He.glo_ok X G (c.t.d.fact 12 (f := .glo "node_or_none") rfl), D⟩
    f_node_at := let ⟨fd, D⟩ := c.t.d.def_ 13 (d := d_node_at) rfl; ⟨_, fd, He.glo_ok X G (c.t.d.fact 13 (f := .glo "node_at") rfl), D⟩
    f_with_inner := let ⟨fd, D⟩ := c.t.d.def_ 14 (d := d_with_inner) rfl; ⟨_, fd, He.glo_ok X G (c.t.d.fact 14 (f := .glo "with_inner") rfl), D⟩
    f_put_at := let ⟨fd, D⟩ := c.t.d.def_ 15 (d := d_put_at) rfl; ⟨_, fd, He.glo_ok X G (c.t.d.fact 15 (f := .glo "put_at") rfl), D⟩
    f_letters_of := let ⟨fd, D⟩ := c.t.d.def_ 16 (d := d_letters_of) rfl; ⟨_, fd, He.glo_ok X G (c.t.d.fact 16 (f := .glo "letters_of") rfl), D⟩
    f_depth_of := let ⟨fd, D⟩ := c.t.d.def_ 17 (d := d_depth_of) rfl; ⟨_, fd, He.glo_ok X G (c.t.d.fact 17 (f := .glo "depth_of") rfl), D⟩
    f_words_of := let ⟨fd, D⟩ := c.t.d.def_ 18 (d := d_words_of) rfl; ⟨_, fd, He.glo_ok X G (c.t.d.fact 18 (f := .glo "words_of") rfl), D⟩
    f_branch_count := let ⟨fd, D⟩ := c.t.d.def_ 19 (d := d_branch_count) rfl; ⟨_, fd, He.glo_ok X G (c.t.d.fact 19 (f := .glo "branch_count") rfl), D⟩
    f_places_of := let ⟨fd, D⟩ := c.t.d.def_ 20 (d := d_places_of) rfl; ⟨_, fd, He.glo_ok X G (c.t.d.fact 20 (f := .glo "places_of") rfl), D⟩
    f_decision_node := let ⟨fd, D⟩ := c.t.d.def_ 21 (d := d_decision_node) rfl; ⟨_, fd, He.glo_ok X G (c.t.d.fact 21 (f := .glo "decision_node") rfl), D⟩
    f_branches_of := let ⟨fd, D⟩ := c.t.d.def_ 22 (d := d_branches_of) rfl; ⟨_, fd, He.glo_ok X G (c.t.d.fact 22 (f := .glo "branches_of") rfl), D⟩
    f_direction_at := let ⟨fd, D⟩ := c.t.d.def_ 23 (d := d_direction_at) rfl; ⟨_, fd, He.glo_ok X G (c.t.d.fact 23 (f := .glo "direction_at") rfl), D⟩
    f_line_for := let ⟨fd, D⟩ := c.t.d.def_ 24 (d := d_line_for) rfl; ⟨_, fd, He.glo_ok X G (c.t.d.fact 24 (f := .glo "line_for") rfl), D⟩
    f_line_of := let ⟨fd, D⟩ := c.t.d.def_ 25 (d := d_line_of) rfl; ⟨_, fd, He.glo_ok X G (c.t.d.fact 25 (f := .glo "line_of") rfl), D⟩
    f__law_store := let ⟨fd, D⟩ := c.t.d.def_ 26 (d := d__law_store) rfl; ⟨_, fd, He.glo_ok X G (c.t.d.fact 26 (f := .glo "_law_store") rfl), D⟩
    f__law_refill := let ⟨fd, D⟩ := c.t.d.def_ 27 (d := d__law_refill) rfl; ⟨_, fd, He.glo_ok X G (c.t.d.fact 27 (f := .glo "_law_refill") rfl), D⟩
    f__law_mix := let ⟨fd, D⟩ := c.t.d.def_ 28 (d := d__law_mix) rfl; ⟨_, fd, He.glo_ok X G (c.t.d.fact 28 (f := .glo "_law_mix") rfl), D⟩
    f__law_take := let ⟨fd, D⟩ := c.t.d.def_ 29 (d := d__law_take) rfl; ⟨_, fd, He.glo_ok X G (c.t.d.fact 29 (f := .glo "_law_take") rfl), D⟩
    f__law_pick := let ⟨fd, D⟩ := c.t.d.def_ 30 (d := d__law_pick) rfl; ⟨_, fd, He.glo_ok X G (c.t.d.fact 30 (f := .glo "_law_pick") rfl), D⟩
    f__law_same := let ⟨fd, D⟩ := c.t.d.def_ 31 (d := d__law_same) rfl; ⟨_, fd, He.glo_ok X G (c.t.d.fact 31 (f := .glo "_law_same") rfl), D⟩
    f__law_name := let ⟨fd, D⟩ := c.t.d.def_ 32 (d := d__law_name) rfl; ⟨_, fd, He.glo_ok X G (c.t.d.fact 32 (f := .glo "_law_name") rfl), D⟩
    f__law_unlike_name := let ⟨fd, D⟩ := c.t.d.def_ 33 (d := d__law_unlike_name) rfl; ⟨_, fd, He.glo_ok X G (c.t.d.fact 33 (f := .glo "_law_unlike_name") rfl), D⟩
    f__law_pool_names := let ⟨fd, D⟩ := c.t.d.def_ 34 (d := d__law_pool_names) rfl; ⟨_, fd, He.glo_ok X G (c.t.d.fact 34 (f := .glo "_law_pool_names") rfl), D⟩
    f__law_split_words := let ⟨fd, D⟩ := c.t.d.def_ 35 (d := d__law_split_words) rfl; ⟨_, fd, He.glo_ok X G (c.t.d.fact 35 (f := .glo "_law_split_words") rfl), D⟩
    f__law_odd_word := let ⟨fd, D⟩ := c.t.d.def_ 36 (d := d__law_odd_word) rfl; ⟨_, fd, He.glo_ok X G (c.t.d.fact 36 (f := .glo "_law_odd_word") rfl), D⟩
    f__law_branch_words := let ⟨fd, D⟩ := c.t.d.def_ 37 (d := d__law_branch_words) rfl; ⟨_, fd, He.glo_ok X G (c.t.d.fact 37 (f := .glo "_law_branch_words") rfl), D⟩
    f__law_some_kind := let ⟨fd, D⟩ := c.t.d.def_ 38 (d := d__law_some_kind) rfl; ⟨_, fd, He.glo_ok X G (c.t.d.fact 38 (f := .glo "_law_some_kind") rfl), D⟩
    f__law_any_kind := let ⟨fd, D⟩ := c.t.d.def_ 39 (d := d__law_any_kind) rfl; ⟨_, fd, He.glo_ok X G (c.t.d.fact 39 (f := .glo "_law_any_kind") rfl), D⟩
    f__law_inner := let ⟨fd, D⟩ := c.t.d.def_ 40 (d := d__law_inner) rfl; ⟨_, fd, He.glo_ok X G (c.t.d.fact 40 (f := .glo "_law_inner") rfl), D⟩
    f__law_walk := let ⟨fd, D⟩ := c.t.d.def_ 41 (d := d__law_walk) rfl; ⟨_, fd, He.glo_ok X G (c.t.d.fact 41 (f := .glo "_law_walk") rfl), D⟩
    f__law_with := let ⟨fd, D⟩ := c.t.d.def_ 42 (d := d__law_with) rfl; ⟨_, fd, He.glo_ok X G (c.t.d.fact 42 (f := .glo "_law_with") rfl), D⟩
    f__law_put := let ⟨fd, D⟩ := c.t.d.def_ 43 (d := d__law_put) rfl; ⟨_, fd, He.glo_ok X G (c.t.d.fact 43 (f := .glo "_law_put") rfl), D⟩
    f__law_line := let ⟨fd, D⟩ := c.t.d.def_ 44 (d := d__law_line) rfl; ⟨_, fd, He.glo_ok X G (c.t.d.fact 44 (f := .glo "_law_line") rfl), D⟩
    f__law_lists := let ⟨fd, D⟩ := c.t.d.def_ 45 (d := d__law_lists) rfl; ⟨_, fd, He.glo_ok X G (c.t.d.fact 45 (f := .glo "_law_lists") rfl), D⟩
    f__law_spliced := let ⟨fd, D⟩ := c.t.d.def_ 46 (d := d__law_spliced) rfl; ⟨_, fd, He.glo_ok X G (c.t.d.fact 46 (f := .glo "_law_spliced") rfl), D⟩
    f__law_shows := let ⟨fd, D⟩ := c.t.d.def_ 47 (d := d__law_shows) rfl; ⟨_, fd, He.glo_ok X G (c.t.d.fact 47 (f := .glo "_law_shows") rfl), D⟩
    f__law_nodes_hold := let ⟨fd, D⟩ := c.t.d.def_ 48 (d := d__law_nodes_hold) rfl; ⟨_, fd, He.glo_ok X G (c.t.d.fact 48 (f := .glo "_law_nodes_hold") rfl), D⟩
    f__law_refused := let ⟨fd, D⟩ := c.t.d.def_ 49 (d := d__law_refused) rfl; ⟨_, fd, He.glo_ok X G (c.t.d.fact 49 (f := .glo "_law_refused") rfl), D⟩
    f_law := let ⟨fd, D⟩ := c.t.d.def_ 50 (d := d_law) rfl; ⟨_, fd, He.glo_ok X G (c.t.d.fact 50 (f := .glo "law") rfl), D⟩
    x_BadKind := top_BadKind X G c e_BadKind
    x_BadPath := top_BadPath X G c e_BadPath
    x_TooMany := top_TooMany X G c e_TooMany
    is_BadKind := ⟨_, He.glo_ok X G (c.t.d.fact 74 (f := .glo "BadKind") rfl), fun nm b cls hs hm => ?_, fun nm b cls hs hm => ?_⟩
    is_BadPath := ⟨_, He.glo_ok X G (c.t.d.fact 75 (f := .glo "BadPath") rfl), fun nm b cls hs hm => ?_, fun nm b cls hs hm => ?_⟩
    is_KeysinlineError := ⟨_, He.glo_ok X G (c.t.d.fact 73 (f := .glo "KeysinlineError") rfl), fun nm b cls hs hm => ?_, fun nm b cls hs hm => ?_⟩
    okF_most := fun nm cls hs hm => ?_
    okF_path := fun nm cls hs hm => ?_
    okF_what := fun nm cls hs hm => ?_
  }
  · unfold isC_BadKind at hs
    split at hs
    · rename_i e
      subst e; cases hs; rw [g_BadKind] at hm; cases hm
      exact He.exm_ok (c.t.d.fact 84 (f := .exm "BadKind" "BadKind" true) rfl)
    ·
      split at hs
      · rename_i e
        subst e; cases hs; rw [g_BadPath] at hm; cases hm
        exact He.exm_ok (c.t.d.fact 87 (f := .exm "BadPath" "BadKind" false) rfl)
      ·
        split at hs
        · rename_i e
          subst e; cases hs; rw [g_TooMany] at hm; cases hm
          exact He.exm_ok (c.t.d.fact 90 (f := .exm "TooMany" "BadKind" false) rfl)
        · cases hs
  · unfold isC_BadKind at hs
    split at hs
    · rename_i e
      subst e; cases hs; rw [g_BadKind] at hm; cases hm
      exact ⟨_, rfl, e_BadKind.c, k_BadKind_BadKind⟩
    ·
      split at hs
      · rename_i e
        subst e; cases hs; rw [g_BadPath] at hm; cases hm
        exact ⟨_, rfl, e_BadPath.c, k_BadPath_BadKind⟩
      ·
        split at hs
        · rename_i e
          subst e; cases hs; rw [g_TooMany] at hm; cases hm
          exact ⟨_, rfl, e_TooMany.c, k_TooMany_BadKind⟩
        · cases hs
  · unfold isC_BadPath at hs
    split at hs
    · rename_i e
      subst e; cases hs; rw [g_BadKind] at hm; cases hm
      exact He.exm_ok (c.t.d.fact 85 (f := .exm "BadKind" "BadPath" false) rfl)
    ·
      split at hs
      · rename_i e
        subst e; cases hs; rw [g_BadPath] at hm; cases hm
        exact He.exm_ok (c.t.d.fact 88 (f := .exm "BadPath" "BadPath" true) rfl)
      ·
        split at hs
        · rename_i e
          subst e; cases hs; rw [g_TooMany] at hm; cases hm
          exact He.exm_ok (c.t.d.fact 91 (f := .exm "TooMany" "BadPath" false) rfl)
        · cases hs
  · unfold isC_BadPath at hs
    split at hs
    · rename_i e
      subst e; cases hs; rw [g_BadKind] at hm; cases hm
      exact ⟨_, rfl, e_BadKind.c, k_BadKind_BadPath⟩
    ·
      split at hs
      · rename_i e
        subst e; cases hs; rw [g_BadPath] at hm; cases hm
        exact ⟨_, rfl, e_BadPath.c, k_BadPath_BadPath⟩
      ·
        split at hs
        · rename_i e
          subst e; cases hs; rw [g_TooMany] at hm; cases hm
          exact ⟨_, rfl, e_TooMany.c, k_TooMany_BadPath⟩
        · cases hs
  · unfold isC_KeysinlineError at hs
    split at hs
    · rename_i e
      subst e; cases hs; rw [g_BadKind] at hm; cases hm
      exact He.exm_ok (c.t.d.fact 86 (f := .exm "BadKind" "KeysinlineError" true) rfl)
    ·
      split at hs
      · rename_i e
        subst e; cases hs; rw [g_BadPath] at hm; cases hm
        exact He.exm_ok (c.t.d.fact 89 (f := .exm "BadPath" "KeysinlineError" true) rfl)
      ·
        split at hs
        · rename_i e
          subst e; cases hs; rw [g_TooMany] at hm; cases hm
          exact He.exm_ok (c.t.d.fact 92 (f := .exm "TooMany" "KeysinlineError" true) rfl)
        · cases hs
  · unfold isC_KeysinlineError at hs
    split at hs
    · rename_i e
      subst e; cases hs; rw [g_BadKind] at hm; cases hm
      exact ⟨_, rfl, e_BadKind.c, k_BadKind_KeysinlineError⟩
    ·
      split at hs
      · rename_i e
        subst e; cases hs; rw [g_BadPath] at hm; cases hm
        exact ⟨_, rfl, e_BadPath.c, k_BadPath_KeysinlineError⟩
      ·
        split at hs
        · rename_i e
          subst e; cases hs; rw [g_TooMany] at hm; cases hm
          exact ⟨_, rfl, e_TooMany.c, k_TooMany_KeysinlineError⟩
        · cases hs
  · unfold okF_most at hs
    split at hs
    · rename_i e
      subst e; rw [g_TooMany] at hm; cases hm
      exact ⟨_, rfl, e_TooMany.f, He.noat_ok (c.t.d.fact 83 (f := .noat "TooMany" "most") rfl)⟩
    · cases hs
  · unfold okF_path at hs
    split at hs
    · rename_i e
      subst e; rw [g_BadKind] at hm; cases hm
      exact ⟨_, rfl, e_BadKind.f, He.noat_ok (c.t.d.fact 78 (f := .noat "BadKind" "path") rfl)⟩
    ·
      split at hs
      · rename_i e
        subst e; rw [g_BadPath] at hm; cases hm
        exact ⟨_, rfl, e_BadPath.f, He.noat_ok (c.t.d.fact 80 (f := .noat "BadPath" "path") rfl)⟩
      · cases hs
  · unfold okF_what at hs
    split at hs
    · rename_i e
      subst e; rw [g_TooMany] at hm; cases hm
      exact ⟨_, rfl, e_TooMany.f, He.noat_ok (c.t.d.fact 82 (f := .noat "TooMany" "what") rfl)⟩
    · cases hs
theorem sc_law : C8.scC N_law ["script"] (defScope s_law) = true := by kernel_rfl
theorem law_ok (T : Top P w K mg base) : ∃ f fd, mg "law" = some (.ref f) ∧ FunD K "law" "law" (defArgs s_law) (defBody s_law) (defScope s_law) [] [] f fd ∧ FnOk P w K mg base (L2.CX P w) 38 f fd ["script"] (spF ⟨K, mg, none⟩ 1 F_law) := by
  obtain ⟨f, fd, hm, D⟩ := T.f_law
  exact ⟨f, fd, hm, D, fn_ok D sc_law fun cdv A outer s H E hr => b_law T hr⟩
end
/-- one function object -/
theorem fd_uniq {K : PySem.W.Frag} {x q : Str} {pa : Arguments} {bd : List Stmt} {sc : Scope} {dv : List V} {kw : List (Str × V)} {f : Addr} {fd fd' : FuncData} (D : FunD K x q pa bd sc dv kw f fd) (D' : FunD K x q pa bd sc dv kw f fd') : fd = fd' := by
  obtain ⟨oc, od, dV, kV, doc, pm, an, cdv, ct, osl, _, h, _⟩ := D.ex
  obtain ⟨oc', od', dV', kV', doc', pm', an', cdv', ct', osl', _, h', _⟩ := D'.ex
  rw [h] at h'
  have z := Option.some.inj h'
  have z2 := congrArg Obj.data z
  exact Data.func.inj z2
/-- the law's def at the script -/
theorem law_sp {K : PySem.W.Frag} {mg : Str → Option Value} {H : Hp} {a : Addr} {ns : List Int} (hl : ns.length ≤ 63) (hO : Only H) (hS : SqL K H a (ns.map V.int)) (hF : ∃ st, F_law [.fz (ns.map D.int)] [] = .ok (.val (.bl true)) st) :
    spF ⟨K, mg, none⟩ 1 F_law [.ref a] H (fun v _ => v = .bl true) (fun _ _ _ => False) := by
  have hz : (ns.map V.int).length ≤ sizeLine := by rw [List.length_map, sizeLine_eq]; omega
  have nl : ∀ b vs, H b ≠ some (.lst vs) := fun b vs e => by
    rcases hO b with q | ⟨o, xs, q⟩ <;> (rw [q] at e; cases e)
  have nt : ∀ b vs, H b ≠ some (.tup vs) := fun b vs e => by
    rcases hO b with q | ⟨o, xs, q⟩ <;> (rw [q] at e; cases e)
  have at_ : FzAt K H a (ns.map V.int) := ⟨hz, by
    rcases hS with (q | ⟨o, q⟩) | q
    · exact (nl a _ q).elim
    · exact .inl ⟨o, q⟩
    · exact .inr q⟩
  obtain ⟨st, hF⟩ := hF
  refine ⟨⟨fun _ => 0, [], H, fun _ => False, fun _ => False⟩, [.fz (ns.map D.int)], rfl, fun _ z => z, ⟨fun n m x y h => by simp at h, fun n ds h => by simp at h, fun b ⟨n, mo, h, _⟩ => by simp at h, fun b q => q.elim, fun b q => q.elim, fun b vs e => (nl b vs e).elim, fun b vs e => (nt b vs e).elim⟩, .cons ?_ .nil, rfl, ?_⟩
  · unfold Rep
    exact ⟨a, _, rfl, at_, RepL.ofInt ns⟩
  · show WpS _ _ _ (F_law [.fz (ns.map D.int)] []) _
    rw [hF]
    exact fun w' l g e v r => r.bl_eq
end KG
open PySem PySem.W PySem.Calls PyProof.Rows
namespace KG
open PySem PySem.Spec PyProof.Rows L2 Ds KH
/-- what a def may let out, in whatever world -/
def CXw (P : Program) : CXT := fun outer H s E u s' => ∃ w, L2.CX P w outer H s E u s'
theorem fn_cxw {P : Program} {w : World} {K : PySem.W.Frag} {mg : Str → Option Value} {base : Heap} {k : Nat} {f : Addr} {fd : FuncData} {ps : List Str} {sp : Sp} (F : FnOk P w K mg base (L2.CX P w) k f fd ps sp) : FnOk P w K mg base (CXw P) k f fd ps sp :=
  ⟨F.len, fun A outer s H args us vs Q E hr he hb hv hs => codeAny_mono (F.run A outer s H args us vs Q E hr he hb hv hs) fun r s' h => by
    cases r with
    | error e => exact ⟨w, h⟩
    | ok fl => cases fl <;> exact h⟩
theorem cxw_none {P : Program} {H : Hp} {s : Shared} {e : Value} {s' : Shared} (h : CXw P [] H s (fun _ _ _ => False) e s') : False := by
  obtain ⟨w, a, B, H', cls, d, _, _, _, _, _, _, _, z⟩ := h
  exact z
end KG
theorem law_holds_of (plain : ∀ ns : List Int, ns.length ≤ 63 → ∃ st, KG.F_law [.fz (ns.map Ds.D.int)] [] = .ok (.val (.bl true)) st) : PySem.Challenge.rw_keysinline_k53_parts_exchanged_in_kinds.Holds := by
  w_on; o_law
  refine HandSHeadRun.head_any (r := OpenLaw.row PySem.Challenge.rw_keysinline_k53_parts_exchanged_in_kinds) (q := view (OpenLaw.row PySem.Challenge.rw_keysinline_k53_parts_exchanged_in_kinds).prog [63]) (H := KH.hk) (ob := KH.ob) (M := 6000) (loose := KH.names) (d := HandSHeadRun.topDef (OpenLaw.row PySem.Challenge.rw_keysinline_k53_parts_exchanged_in_kinds).prog 63) (kwd := []) KH.ob_eq
    (by kernel_rfl) (fun s => by kernel_rfl) KH.run (by kernel_rfl) (by kernel_rfl) (by kernel_rfl) (by rfl) (by first | assumption | decide +kernel) (by decide +kernel) ⟨rfl, rfl, rfl, rfl, rfl, by decide +kernel⟩ ?hw ?hc
  case hw => w_witness2
  case hc =>
    refine L2.walk_ofE (l := PySem.Challenge.rw_keysinline_k53_parts_exchanged_in_kinds) (n := 63) (k := 38) (x := "script") (CX := KG.CXw (PySem.Challenge.rw_keysinline_k53_parts_exchanged_in_kinds).prog) rfl (by decide) (by kernel_rfl) ⟨rfl, by decide, by decide⟩ ?F (fun _ _ _ _ z => KG.cxw_none z)
    intro w mg fa h Y G hmg0
    obtain ⟨K, KX, c⟩ := Y
    have hmg : mg ("law" : PySem.Str) = some (.ref fa) := by
      have e : (HandSHeadRun.topDef (OpenLaw.row PySem.Challenge.rw_keysinline_k53_parts_exchanged_in_kinds).prog 63).name = ("law" : PySem.Str) := by kernel_rfl
      rw [← e]
      exact hmg0
    have T0 : KG.Top (PySem.Challenge.rw_keysinline_k53_parts_exchanged_in_kinds).prog w K mg h := KG.top_of KX G c
    obtain ⟨f, fd, hm, D, _⟩ := KG.law_ok T0
    have e2 := hm.symm.trans hmg
    cases e2
    refine ⟨K, fd, Ds.spF ⟨K, mg, none⟩ 1 KG.F_law, KX, ?_, fun H a ns hl hO hS => KG.law_sp hl hO hS (plain ns hl), fun base hb hn => ?_⟩
    · have b := L2.FunD.bindsA (ps := ["script"]) D fun _ _ _ _ _ _ us hl => match us, hl with | [_], _ => rfl
      exact fun s v => b s [v] rfl
    · have T : KG.Top (PySem.Challenge.rw_keysinline_k53_parts_exchanged_in_kinds).prog w K mg base := KG.top_of KX G c
      obtain ⟨f2, fd2, hm2, D2, F2⟩ := KG.law_ok T
      have e3 := hm2.symm.trans hm
      cases e3
      have e4 := KG.fd_uniq D2 D
      subst e4
      exact KG.fn_cxw F2
set_option Elab.async false
set_option linter.all false
set_option maxRecDepth 100000
set_option maxHeartbeats 1000000
set_option autoImplicit false
/-! PA: the plain law of k53: trees, what the small defs give. -/
namespace KP
open PySem PySem.Spec PyProof.Rows L2 Ds KG

/-! ### general -/
theorem not_lt_dec {a b : Int} : (!decide (a < b)) = decide (b ≤ a) := by
  by_cases h : a < b
  · simp [h, Int.not_le.mpr h]
  · simp [h, Int.not_lt.mp h]
theorem ofString_inj {a b : String} : Str.ofString a = Str.ofString b ↔ a = b := by
  refine ⟨fun h => ?_, fun h => by rw [h]⟩
  rw [Str.ofString_eq_toList, Str.ofString_eq_toList] at h
  simp only [Str.mk.injEq, Array.mk.injEq] at h
  have h2 : a.toList = b.toList := (List.map_inj_right (fun x y e => Char.ext (UInt32.toNat_inj.mp e))).mp h
  exact String.toList_inj.mp h2
theorem eqD_str {a b : Str} {st : Sto} : eqD (.str a) (.str b) st = .ok (decide (a = b)) st := by
  unfold eqD
  rw [if_pos ⟨rfl, rfl, by simp [D.py, PyData.depth]⟩]
  show Out.ok (a == b) st = _
  rfl
theorem neD_str {a b : Str} {st : Sto} : neD (.str a) (.str b) st = .ok (!decide (a = b)) st := by
  unfold neD
  rw [if_pos ⟨rfl, rfl, by simp [D.py, PyData.depth]⟩]
  show Out.ok (!(a == b)) st = _
  rfl
theorem eqD_int {a b : Int} {st : Sto} : eqD (.int a) (.int b) st = .ok (decide (a = b)) st := by
  unfold eqD
  rw [if_pos ⟨rfl, rfl, by simp [D.py, PyData.depth]⟩]
  show Out.ok (a == b) st = _
  rfl
theorem neD_int {a b : Int} {st : Sto} : neD (.int a) (.int b) st = .ok (!decide (a = b)) st := by
  unfold neD
  rw [if_pos ⟨rfl, rfl, by simp [D.py, PyData.depth]⟩]
  show Out.ok (!(a == b)) st = _
  rfl
theorem idx_tup {xs : List D} {n : Nat} {d : D} {st : Sto} (h : xs[n]? = some d) : idxD (.tup xs) (.int n) st = .ok d st := by
  have hn := (List.getElem?_eq_some_iff.mp h).1
  have e : atI xs (n : Int) = some d := by
    unfold atI ixN
    simp [hn]
    exact (List.getElem?_eq_some_iff.mp h).2
  show (match atI xs (n : Int) with | some x => Out.ok x st | none => .bad) = _
  rw [e]
theorem idx_lst {xs : List D} {n : Nat} {d : D} {st : Sto} (h : xs[n]? = some d) : idxD (.lst xs) (.int n) st = .ok d st := by
  have hn := (List.getElem?_eq_some_iff.mp h).1
  have e : atI xs (n : Int) = some d := by
    unfold atI ixN
    simp [hn]
    exact (List.getElem?_eq_some_iff.mp h).2
  show (match atI xs (n : Int) with | some x => Out.ok x st | none => .bad) = _
  rw [e]
@[simp] theorem idx_tup_0 {a0 : D} {xs : List D} {st : Sto} : idxD (.tup (a0 :: xs)) (.int 0) st = .ok a0 st := idx_tup (n := 0) rfl
@[simp] theorem idx_lst_0 {a0 : D} {xs : List D} {st : Sto} : idxD (.lst (a0 :: xs)) (.int 0) st = .ok a0 st := idx_lst (n := 0) rfl
@[simp] theorem idx_tup_1 {a0 a1 : D} {xs : List D} {st : Sto} : idxD (.tup (a0 :: a1 :: xs)) (.int 1) st = .ok a1 st := idx_tup (n := 1) rfl
@[simp] theorem idx_lst_1 {a0 a1 : D} {xs : List D} {st : Sto} : idxD (.lst (a0 :: a1 :: xs)) (.int 1) st = .ok a1 st := idx_lst (n := 1) rfl
@[simp] theorem idx_tup_2 {a0 a1 a2 : D} {xs : List D} {st : Sto} : idxD (.tup (a0 :: a1 :: a2 :: xs)) (.int 2) st = .ok a2 st := idx_tup (n := 2) rfl
@[simp] theorem idx_lst_2 {a0 a1 a2 : D} {xs : List D} {st : Sto} : idxD (.lst (a0 :: a1 :: a2 :: xs)) (.int 2) st = .ok a2 st := idx_lst (n := 2) rfl
@[simp] theorem idx_tup_3 {a0 a1 a2 a3 : D} {xs : List D} {st : Sto} : idxD (.tup (a0 :: a1 :: a2 :: a3 :: xs)) (.int 3) st = .ok a3 st := idx_tup (n := 3) rfl
@[simp] theorem idx_lst_3 {a0 a1 a2 a3 : D} {xs : List D} {st : Sto} : idxD (.lst (a0 :: a1 :: a2 :: a3 :: xs)) (.int 3) st = .ok a3 st := idx_lst (n := 3) rfl
@[simp] theorem idx_tup_4 {a0 a1 a2 a3 a4 : D} {xs : List D} {st : Sto} : idxD (.tup (a0 :: a1 :: a2 :: a3 :: a4 :: xs)) (.int 4) st = .ok a4 st := idx_tup (n := 4) rfl
@[simp] theorem idx_lst_4 {a0 a1 a2 a3 a4 : D} {xs : List D} {st : Sto} : idxD (.lst (a0 :: a1 :: a2 :: a3 :: a4 :: xs)) (.int 4) st = .ok a4 st := idx_lst (n := 4) rfl
@[simp] theorem idx_tup_5 {a0 a1 a2 a3 a4 a5 : D} {xs : List D} {st : Sto} : idxD (.tup (a0 :: a1 :: a2 :: a3 :: a4 :: a5 :: xs)) (.int 5) st = .ok a5 st := idx_tup (n := 5) rfl
@[simp] theorem idx_lst_5 {a0 a1 a2 a3 a4 a5 : D} {xs : List D} {st : Sto} : idxD (.lst (a0 :: a1 :: a2 :: a3 :: a4 :: a5 :: xs)) (.int 5) st = .ok a5 st := idx_lst (n := 5) rfl
@[simp] theorem idx_tup_6 {a0 a1 a2 a3 a4 a5 a6 : D} {xs : List D} {st : Sto} : idxD (.tup (a0 :: a1 :: a2 :: a3 :: a4 :: a5 :: a6 :: xs)) (.int 6) st = .ok a6 st := idx_tup (n := 6) rfl
@[simp] theorem idx_lst_6 {a0 a1 a2 a3 a4 a5 a6 : D} {xs : List D} {st : Sto} : idxD (.lst (a0 :: a1 :: a2 :: a3 :: a4 :: a5 :: a6 :: xs)) (.int 6) st = .ok a6 st := idx_lst (n := 6) rfl
theorem lcL_map {step : D → Sto → Out (Option D)} {g : D → D} {st : Sto} : ∀ (ds acc : List D), (∀ d ∈ ds, step d st = .ok (some (g d)) st) → acc.length + ds.length ≤ sizeLine → lcL step ds acc st = .ok (acc ++ ds.map g) st
  | [], acc, _, _ => by simp [lcL]
  | d :: ds, acc, h, hz => by
    rw [List.length_cons] at hz
    unfold lcL
    rw [h d List.mem_cons_self, Out.bind_ok]
    show (if _ then _ else _) = _
    rw [if_pos (by omega), lcL_map ds (acc ++ [g d]) (fun e he => h e (List.mem_cons_of_mem _ he)) (by simp; omega)]
    simp

/-! ### trees -/
inductive Lab where
  | row | table (es : List (Str × Str)) | choice (es : List (Str × Str)) | list (a b s : Str) | turned
inductive Kd where
  | mk (l : Lab) (ks : List Kd)
def Kd.lab : Kd → Lab | .mk l _ => l
def Kd.ks : Kd → List Kd | .mk _ ks => ks
def pairD (p : Str × Str) : D := .tup [.str p.1, .str p.2]
def tripD (p : Str × Str) (d : D) : D := .tup [.str p.1, .str p.2, d]
/-- a node by its children's data -/
def Lab.D (l : Lab) (ds : List Ds.D) : Ds.D := match l with
  | .row => .tup [.str "row", .tup ds]
  | .table es => .tup [.str "table", .tup (es.map pairD)]
  | .choice es => .tup [.str "choice", .tup (List.zipWith tripD es ds)]
  | .list a b s => .tup (.str "list" :: .str a :: .str b :: .str s :: ds)
  | .turned => .tup (.str "turned" :: ds)
mutual
def Kd.D : Kd → Ds.D
  | .mk l ks => l.D (Kd.Ds ks)
def Kd.Ds : List Kd → List Ds.D
  | [] => []
  | k :: ks => k.D :: Kd.Ds ks
end
theorem kds_map : ∀ ks : List Kd, Kd.Ds ks = ks.map Kd.D
  | [] => rfl
  | k :: ks => by unfold Kd.Ds; rw [kds_map ks]; rfl
/-- as many children as the label wants -/
def Lab.fits (l : Lab) (n : Nat) : Prop := match l with
  | .row => n ≤ 6
  | .table es => n = 0 ∧ es.length ≤ 10
  | .choice es => n = es.length ∧ n ≤ 6
  | .list _ _ _ => n = 1
  | .turned => n = 1
def Lab.sort : Lab → Str
  | .row => "row" | .table _ => "table" | .choice _ => "choice" | .list _ _ _ => "list" | .turned => "turned"
theorem smallLine {n : Nat} (h : n ≤ 1000) : n ≤ sizeLine := by rw [sizeLine_eq]; omega
def third : D → D
  | .tup (_ :: _ :: x :: _) => x
  | d => d
theorem third_zip : ∀ {es : List (Str × Str)} {ds : List Ds.D}, ds.length = es.length → (List.zipWith tripD es ds).map third = ds
  | [], [], _ => rfl
  | e :: es, d :: ds, h => by
    simp only [List.length_cons, Nat.add_right_cancel_iff] at h
    rw [List.zipWith_cons_cons, List.map_cons, third_zip h]; rfl
  | [], d :: ds, h => by simp at h
  | e :: es, [], h => by simp at h
theorem trip_mem : ∀ {es : List (Str × Str)} {ds : List Ds.D} {d : Ds.D}, d ∈ List.zipWith tripD es ds → ∃ p d', d = tripD p d'
  | [], _, _, h => by simp at h
  | _ :: _, [], _, h => by simp at h
  | e :: es, x :: ds, d, h => by
    rw [List.zipWith_cons_cons] at h
    rcases List.mem_cons.mp h with h | h
    · exact ⟨e, x, h⟩
    · exact trip_mem h
/-- the children -/
theorem f_inner {l : Lab} {ds : List Ds.D} (st : Sto) (h : l.fits ds.length) : F_inner_kinds [l.D ds] st = .ok (.val (.tup ds)) st := by
  unfold F_inner_kinds B_inner_kinds
  cases l with
  | row => simp [Lab.D, eqD_str, ofString_inj, tupOfD, smallLine]
  | table es =>
    obtain ⟨h1, h2⟩ := h
    have : ds = [] := List.length_eq_zero_iff.mp h1
    subst this
    simp [Lab.D, eqD_str, ofString_inj, tupOfD, smallLine]
  | choice es =>
    obtain ⟨h1, h2⟩ := h
    have e : ∀ (x y : D), lcL (stepC (.nm 2) bYes (sIx (sVar 2) (sC (.int 2))) [some (.val x), some (.val y), none]) (List.zipWith tripD es ds) [] st = .ok ds st := fun x y => by
      rw [lcL_map (g := third) _ _ (fun d hd => ?_) (by simp [List.length_zipWith]; exact smallLine (by omega))]
      · simp [third_zip h1]
      · obtain ⟨p, d', rfl⟩ := trip_mem hd
        simp [stepC_eq, tripD, third]
    simp [Lab.D, eqD_str, ofString_inj, e]
  | list a b s =>
    have h1 : ds.length = 1 := h
    obtain ⟨d, rfl⟩ := List.length_eq_one_iff.mp h1
    simp [Lab.D, eqD_str, ofString_inj, tupOfD, smallLine]
  | turned =>
    have h1 : ds.length = 1 := h
    obtain ⟨d, rfl⟩ := List.length_eq_one_iff.mp h1
    simp [Lab.D, eqD_str, ofString_inj, tupOfD, smallLine]
end KP
set_option Elab.async false
set_option linter.all false
set_option maxRecDepth 100000
set_option maxHeartbeats 1000000
set_option autoImplicit false
/-! PB: the plain law of k53: directions, words, slices, a child put. -/
namespace KP
open PySem PySem.Spec PyProof.Rows L2 Ds KG
theorem cut_take {α : Type} {xs : List α} {n : Nat} (h : n ≤ xs.length) : cutL xs none (some (n : Int)) = xs.take n := by
  unfold cutL
  rw [HT.sIx_nat, HT.sIx_none, Nat.min_eq_left h, List.drop_zero, Nat.sub_zero]
theorem cut_drop {α : Type} {xs : List α} {n : Nat} (h : n ≤ xs.length) : cutL xs (some (n : Int)) none = xs.drop n := by
  unfold cutL
  rw [HT.sIx_nat, HT.sIx_none, Nat.min_eq_left h]
  exact List.take_of_length_le (by rw [List.length_drop]; exact Nat.le_refl _)
theorem slice_take {xs : List D} {n : Nat} {st : Sto} (h : n ≤ xs.length) : sliceD (.tup xs) none (some (n : Int)) st = .ok (.tup (xs.take n)) st := by
  show Out.ok (D.tup (cutL xs none (some (n : Int)))) st = _
  rw [cut_take h]
theorem slice_drop {xs : List D} {n : Nat} {st : Sto} (h : n ≤ xs.length) : sliceD (.tup xs) (some (n : Int)) none st = .ok (.tup (xs.drop n)) st := by
  show Out.ok (D.tup (cutL xs (some (n : Int)) none)) st = _
  rw [cut_drop h]
theorem slice_drop' {xs : List D} {n : Nat} {st : Sto} (h : n + 1 ≤ xs.length) : sliceD (.tup xs) (some ((n : Int) + 1)) none st = .ok (.tup (xs.drop (n + 1))) st := by
  have e : (n : Int) + 1 = ((n + 1 : Nat) : Int) := by omega
  rw [e]
  exact slice_drop h
theorem slice_4 {a b c d : D} {xs : List D} {st : Sto} : sliceD (.tup (a :: b :: c :: d :: xs)) none (some 4) st = .ok (.tup [a, b, c, d]) st := slice_take (n := 4) (by simp)
theorem addD_tup {xs ys : List D} {st : Sto} : addD (.tup xs) (.tup ys) st = if xs.length + ys.length ≤ sizeLine then .ok (.tup (xs ++ ys)) st else .bad := rfl
theorem set_cut {α : Type} {xs : List α} {n : Nat} {y : α} (h : n < xs.length) : xs.take n ++ y :: xs.drop (n + 1) = xs.set n y := by
  rw [List.set_eq_take_append_cons_drop, if_pos h]
def dirD (up : Bool) : D := if up then .str "up" else .str "down"
theorem f_other (up : Bool) (st : Sto) : F_other_direction [dirD up] st = .ok (.val (dirD (!up))) st := by
  unfold F_other_direction B_other_direction dirD
  cases up <;> simp [eqD_str, ofString_inj]
def Lab.words : Lab → List Str
  | .table es => es.map (·.2)
  | .choice es => es.map (·.2)
  | .list a b _ => [a, b]
  | _ => []
def second : D → D
  | .tup (_ :: x :: _) => x
  | d => d
theorem second_pair (es : List (Str × Str)) : (es.map pairD).map second = es.map fun p => .str p.2 := by
  rw [List.map_map]; rfl
theorem second_trip : ∀ {es : List (Str × Str)} {ds : List Ds.D}, ds.length = es.length → (List.zipWith tripD es ds).map second = es.map fun p => .str p.2
  | [], [], _ => rfl
  | e :: es, d :: ds, h => by
    simp only [List.length_cons, Nat.add_right_cancel_iff] at h
    rw [List.zipWith_cons_cons, List.map_cons, second_trip h]; rfl
  | [], d :: ds, h => by simp at h
  | e :: es, [], h => by simp at h
theorem f_words {l : Lab} {ds : List Ds.D} (st : Sto) (h : l.fits ds.length) : F_own_words [l.D ds] st = .ok (.own (l.words.map .str)) st := by
  unfold F_own_words B_own_words
  cases l with
  | row => simp [Lab.D, eqD_str, ofString_inj, smallLine, Lab.words]
  | table es =>
    obtain ⟨h1, h2⟩ := h
    have e : ∀ (x y : D), lcL (stepC (.nm 2) bYes (sIx (sVar 2) (sC (.int 1))) [some (.val x), some (.val y), none]) (es.map pairD) [] st = .ok (es.map fun p => .str p.2) st := fun x y => by
      rw [lcL_map (g := second) _ _ (fun d hd => ?_) (by simp; exact smallLine (by omega))]
      · rw [second_pair]; rfl
      · obtain ⟨p, _, rfl⟩ := List.mem_map.mp hd
        simp [stepC_eq, pairD, second]
    simp [Lab.D, eqD_str, ofString_inj, e, Lab.words]
  | choice es =>
    obtain ⟨h1, h2⟩ := h
    have e : ∀ (x y : D), lcL (stepC (.nm 2) bYes (sIx (sVar 2) (sC (.int 1))) [some (.val x), some (.val y), none]) (List.zipWith tripD es ds) [] st = .ok (es.map fun p => .str p.2) st := fun x y => by
      rw [lcL_map (g := second) _ _ (fun d hd => ?_) (by simp [List.length_zipWith]; exact smallLine (by omega))]
      · rw [second_trip h1]; rfl
      · obtain ⟨p, d', rfl⟩ := trip_mem hd
        simp [stepC_eq, tripD, second]
    simp [Lab.D, eqD_str, ofString_inj, e, Lab.words]
  | list a b s => simp [Lab.D, eqD_str, ofString_inj, smallLine, Lab.words]
  | turned => simp [Lab.D, eqD_str, ofString_inj, smallLine, Lab.words]
def Lab.branches : Lab → Nat
  | .list _ _ _ => 2
  | .table es => es.length
  | .choice es => es.length
  | _ => 0
theorem f_branch {l : Lab} {ds : List Ds.D} (st : Sto) (h : l.fits ds.length) : F_branch_count [l.D ds] st = .ok (.val (.int l.branches)) st := by
  unfold F_branch_count B_branch_count
  cases l with
  | choice es =>
    obtain ⟨h1, h2⟩ := h
    have e : (List.zipWith tripD es ds).length = es.length := by rw [List.length_zipWith, h1, Nat.min_self]
    simp [Lab.D, eqD_str, ofString_inj, Lab.branches, h1]
  | _ => simp [Lab.D, eqD_str, ofString_inj, Lab.branches]
/-- a child is put -/
theorem zip_set : ∀ {es : List (Str × Str)} {ds : List Ds.D} {i : Nat} {d : Ds.D} {p : Str × Str}, es[i]? = some p → (List.zipWith tripD es ds).set i (tripD p d) = List.zipWith tripD es (ds.set i d)
  | [], _, _, _, _, h => by simp at h
  | e :: es, [], i, d, p, h => by simp
  | e :: es, x :: ds, 0, d, p, h => by
    simp only [List.getElem?_cons_zero, Option.some.injEq] at h
    subst h
    simp
  | e :: es, x :: ds, i + 1, d, p, h => by
    simp only [List.getElem?_cons_succ] at h
    simp [zip_set h]
theorem zip_get : ∀ {es : List (Str × Str)} {ds : List Ds.D} {i : Nat} {p : Str × Str} {d : Ds.D}, es[i]? = some p → ds[i]? = some d → (List.zipWith tripD es ds)[i]? = some (tripD p d) := fun h1 h2 => by
  rw [List.getElem?_zipWith, h1, h2]
theorem f_with {l : Lab} {ds : List Ds.D} {i : Nat} {d : Ds.D} (st : Sto) (h : l.fits ds.length) (hi : i < ds.length) : F_with_inner [l.D ds, .int i, d] st = .ok (.val (l.D (ds.set i d))) st := by
  unfold F_with_inner B_with_inner
  cases l with
  | row =>
    have h6 : ds.length ≤ 6 := h
    have z1 : (ds.take i).length + 1 ≤ sizeLine := smallLine (by rw [List.length_take]; omega)
    have z2 : ((ds.take i).length + 1) + (ds.drop (i + 1)).length ≤ sizeLine := smallLine (by rw [List.length_take, List.length_drop]; omega)
    simp only [List.length_take, List.length_drop] at z1 z2
    simp [Lab.D, eqD_str, ofString_inj, smallLine, slice_take (Nat.le_of_lt hi), slice_drop' (show i + 1 ≤ ds.length from hi), addD_tup, z1, z2, set_cut hi]
  | table es => exact absurd hi (by rw [h.1]; exact Nat.not_lt_zero _)
  | choice es =>
    obtain ⟨h1, h2⟩ := h
    have hz : (List.zipWith tripD es ds).length = ds.length := by rw [List.length_zipWith, h1, Nat.min_self]
    have hi' : i < (List.zipWith tripD es ds).length := by rw [hz]; exact hi
    obtain ⟨p, hp⟩ : ∃ p, es[i]? = some p := ⟨_, List.getElem?_eq_getElem (by omega)⟩
    have hd := List.getElem?_eq_getElem hi
    have z1 : ((List.zipWith tripD es ds).take i).length + 1 ≤ sizeLine := smallLine (by rw [List.length_take]; omega)
    have z2 : (((List.zipWith tripD es ds).take i).length + 1) + ((List.zipWith tripD es ds).drop (i + 1)).length ≤ sizeLine := smallLine (by rw [List.length_take, List.length_drop]; omega)
    simp only [List.length_take, List.length_drop, List.length_zipWith] at z1 z2
    have e1 := set_cut (y := tripD p d) hi'
    rw [zip_set hp] at e1
    simp [Lab.D, eqD_str, ofString_inj, smallLine, slice_take (Nat.le_of_lt hi'), slice_drop' (show i + 1 ≤ _ from hi'), addD_tup, z1, z2, idx_tup (zip_get hp hd), tripD]
    exact e1
  | list a b s =>
    have h1 : ds.length = 1 := h
    obtain ⟨x, rfl⟩ := List.length_eq_one_iff.mp h1
    have : i = 0 := by simpa using hi
    subst this
    simp [Lab.D, eqD_str, ofString_inj, smallLine, slice_4, addD_tup]
  | turned =>
    have h1 : ds.length = 1 := h
    obtain ⟨x, rfl⟩ := List.length_eq_one_iff.mp h1
    have : i = 0 := by simpa using hi
    subst this
    simp [Lab.D, eqD_str, ofString_inj, smallLine]
end KP
set_option Elab.async false
set_option linter.all false
set_option maxRecDepth 100000
set_option maxHeartbeats 1000000
set_option autoImplicit false
/-! PC: the plain law of k53: walks. -/
namespace KP
open PySem PySem.Spec PyProof.Rows L2 Ds KG
def pathD (p : List Nat) : D := .tup (p.map fun (n : Nat) => .int n)
abbrev Item := List Nat × Kd × Bool
def itemD (x : Item) : D := .tup [pathD x.1, x.2.1.D, dirD x.2.2]
def Lab.isT : Lab → Bool
  | .turned => true
  | _ => false
/-- the children with their paths and directions -/
def kids (p : List Nat) (up : Bool) : Nat → List Kd → List Item
  | _, [] => []
  | i, k :: ks => (p ++ [i], k, up) :: kids p up (i + 1) ks
mutual
def walk (p : List Nat) (up : Bool) : Kd → List Item
  | .mk l ks => (p, .mk l ks, up) :: walks p (up != l.isT) 0 ks
def walks (p : List Nat) (up : Bool) : Nat → List Kd → List Item
  | _, [] => []
  | i, k :: ks => walk (p ++ [i]) up k ++ walks p up (i + 1) ks
end
def walkI (x : Item) : List Item := walk x.1 x.2.2 x.2.1
theorem walks_kids (p : List Nat) (up : Bool) : ∀ (i : Nat) (ks : List Kd), walks p up i ks = (kids p up i ks).flatMap walkI
  | _, [] => by unfold walks kids; rfl
  | i, k :: ks => by
    unfold walks kids
    rw [List.flatMap_cons, walks_kids p up (i + 1) ks]; rfl
mutual
def Kd.size : Kd → Nat
  | .mk _ ks => 1 + Kd.sizes ks
def Kd.sizes : List Kd → Nat
  | [] => 0
  | k :: ks => k.size + Kd.sizes ks
end
mutual
def Kd.wf : Kd → Prop
  | .mk l ks => l.fits ks.length ∧ Kd.wfs ks
def Kd.wfs : List Kd → Prop
  | [] => True
  | k :: ks => k.wf ∧ Kd.wfs ks
end
theorem kids_len (p : List Nat) (up : Bool) : ∀ (i : Nat) (ks : List Kd), (kids p up i ks).length = ks.length
  | _, [] => rfl
  | i, k :: ks => by unfold kids; rw [List.length_cons, kids_len p up (i + 1) ks]; rfl
theorem kids_get (p : List Nat) (up : Bool) : ∀ (i : Nat) (ks : List Kd) (j : Nat) (k : Kd), ks[j]? = some k → (kids p up i ks)[j]? = some (p ++ [i + j], k, up)
  | _, [], j, k, h => by simp at h
  | i, k' :: ks, 0, k, h => by
    simp only [List.getElem?_cons_zero, Option.some.injEq] at h
    subst h; rfl
  | i, k' :: ks, j + 1, k, h => by
    simp only [List.getElem?_cons_succ] at h
    unfold kids
    rw [List.getElem?_cons_succ, kids_get p up (i + 1) ks j k h]
    congr 4
    omega
theorem rng_down (n : Nat) : rng ((n : Int) - 1) (-1) n = (List.range n).reverse.map fun (i : Nat) => D.int i := by
  refine List.ext_getElem? fun i => ?_
  rw [rng_get, List.getElem?_map]
  by_cases h : i < n
  · rw [if_pos h, List.getElem?_reverse (by rw [List.length_range]; exact h), List.length_range, List.getElem?_range (by omega)]
    simp only [Option.map_some]
    congr 2
    omega
  · rw [if_neg h, List.getElem?_eq_none (by rw [List.length_reverse, List.length_range]; omega)]; rfl
def sumSize (S : List Item) : Nat := (S.map fun x => x.2.1.size).sum
theorem size_pos (k : Kd) : 1 ≤ k.size := by cases k; unfold Kd.size; omega
theorem len_sum : ∀ S : List Item, S.length ≤ sumSize S
  | [] => Nat.le_refl _
  | x :: S => by
    have := len_sum S
    have := size_pos x.2.1
    simp only [sumSize, List.map_cons, List.sum_cons, List.length_cons] at *
    omega
theorem kids_sum (p : List Nat) (up : Bool) : ∀ (i : Nat) (ks : List Kd), sumSize (kids p up i ks) = Kd.sizes ks
  | _, [] => rfl
  | i, k :: ks => by
    have := kids_sum p up (i + 1) ks
    unfold kids Kd.sizes
    simp only [sumSize, List.map_cons, List.sum_cons] at *
    omega
theorem kids_wf (p : List Nat) (up : Bool) : ∀ (i : Nat) (ks : List Kd), Kd.wfs ks → ∀ x ∈ kids p up i ks, x.2.1.wf ∧ x.1.length = p.length + 1
  | _, [], _, x, h => by unfold kids at h; cases h
  | i, k :: ks, hw, x, h => by
    unfold Kd.wfs at hw
    unfold kids at h
    rcases List.mem_cons.mp h with h | h
    · subst h
      exact ⟨hw.1, by simp⟩
    · exact kids_wf p up (i + 1) ks hw.2 x h
/-! ### node_rows: the children go to the stack, the first on top -/
def pushR : SS := qM 2 kApp (sCons (sTup (sCons (s2 addD (sVar 3) (sTup (sCons (sVar 8) sNil))) (sCons (sIx (sVar 7) (sVar 8)) (sCons (sVar 6) sNil)))) sNil)
theorem push_rows {p : List Nat} {up : Bool} {ks : List Kd} {s0 s1 s4 s5 : Option Sl} {st : Sto} (hp : p.length ≤ 1000) : ∀ (L : List Nat) (S : List D) (s8 : Option Sl), (∀ i ∈ L, i < ks.length) → S.length + L.length ≤ 100000 →
    ∃ z, forL (stepT (.nm 8) pushR) (L.map fun (i : Nat) => D.int i) [s0, s1, some (.own S), some (.val (pathD p)), s4, s5, some (.val (dirD up)), some (.val (.tup (Kd.Ds ks))), s8] st =
      .ok (.nx [s0, s1, some (.own (S ++ L.map fun i => itemD ((kids p up 0 ks).getD i ([], .mk .row [], true)))), some (.val (pathD p)), s4, s5, some (.val (dirD up)), some (.val (.tup (Kd.Ds ks))), z]) st
  | [], S, s8, _, _ => ⟨s8, by simp⟩
  | i :: L, S, s8, hi, hz => by
    have h1 := hi i List.mem_cons_self
    obtain ⟨k, hk⟩ : ∃ k, ks[i]? = some k := ⟨_, List.getElem?_eq_getElem h1⟩
    have hd : (Kd.Ds ks)[i]? = some k.D := by rw [kds_map, List.getElem?_map, hk]; rfl
    have hg : (kids p up 0 ks).getD i ([], .mk .row [], true) = (p ++ [i], k, up) := by
      rw [List.getD_eq_getElem?_getD, kids_get p up 0 ks i k hk]
      simp
    rw [List.length_cons] at hz
    have z1 : p.length + 1 ≤ sizeLine := by rw [sizeLine_eq]; omega
    have z2 : S.length < sizeLine := by rw [sizeLine_eq]; omega
    have one : stepT (.nm 8) pushR (.int i) [s0, s1, some (.own S), some (.val (pathD p)), s4, s5, some (.val (dirD up)), some (.val (.tup (Kd.Ds ks))), s8] st =
        .ok (.nx [s0, s1, some (.own (S ++ [itemD (p ++ [i], k, up)])), some (.val (pathD p)), s4, s5, some (.val (dirD up)), some (.val (.tup (Kd.Ds ks))), some (.val (.int i))]) st := by
      have ea : addD (pathD p) (.tup [.int i]) st = .ok (pathD (p ++ [i])) st := by
        unfold pathD
        rw [addD_tup, if_pos (by simpa using z1)]
        simp
      simp [stepT_eq, pushR, smallLine, ea, idx_tup hd, z2, itemD]
    obtain ⟨z, e⟩ := push_rows (p := p) (up := up) (ks := ks) (s0 := s0) (s1 := s1) (s4 := s4) (s5 := s5) (st := st) hp L (S ++ [itemD (p ++ [i], k, up)]) (some (.val (.int i))) (fun j hj => hi j (List.mem_cons_of_mem _ hj)) (by simp; omega)
    refine ⟨z, ?_⟩
    rw [List.map_cons]
    show (stepT (.nm 8) pushR (.int i) _ st).bind _ = _
    rw [one]
    show forL _ _ _ st = _
    rw [e, List.map_cons, hg, List.append_assoc]; rfl
theorem range_getD {α : Type} (d : α) (l : List α) : (List.range l.length).map (fun i => l.getD i d) = l := by
  refine List.ext_getElem? fun i => ?_
  rw [List.getElem?_map]
  by_cases h : i < l.length
  · rw [List.getElem?_range h, List.getElem?_eq_getElem h]
    simp [h]
  · rw [List.getElem?_eq_none (by rw [List.length_range]; omega), List.getElem?_eq_none (by omega)]; rfl
theorem push_all (p : List Nat) (up : Bool) (ks : List Kd) : ((List.range ks.length).reverse.map fun i => itemD ((kids p up 0 ks).getD i ([], .mk .row [], true))) = ((kids p up 0 ks).map itemD).reverse := by
  rw [List.map_reverse]
  congr 1
  have h := range_getD ([], Kd.mk .row [], true) (kids p up 0 ks)
  rw [kids_len] at h
  conv => rhs; rw [← h]
  rw [List.map_map]; rfl
theorem r3_down {n : Nat} {st : Sto} (h : n ≤ 100000) : r3D [.int ((n : Int) - 1), .int (-1), .int (-1)] st = .ok (.fix ((List.range n).reverse.map fun (i : Nat) => D.int i)) st := by
  rw [r3D_down (by omega) (by omega) (by omega) (by omega)]
  have e : ((n : Int) - 1 - (-1)).toNat = n := by omega
  rw [e, rng_down]
/-- one node of node_rows -/
noncomputable def turnR : SS := (qSeq (qPop (.tp [(.nm 3), (.nm 4), (.nm 5)]) 2) (qSeq (qM 1 kApp (sCons (sTup (sCons (sVar 3) (sCons (sVar 4) (sCons (sVar 5) sNil)))) sNil)) (qSeq (qSet 6 (sIf (c2 eqD (sIx (sVar 4) (sC (.int 0))) (sV (sC (.str "turned")))) (sCall F_other_direction [] (sCons (sVar 5) sNil)) (sVar 5))) (qSeq (qSet 7 (sCall F_inner_kinds [] (sCons (sVar 4) sNil))) (qFor (sItA r3D (sCons (s2 subD (s1 lenD (sV (sVar 7))) (sC (.int 1))) (sCons (s1 negD (sC (.int 1))) (sCons (s1 negD (sC (.int 1))) sNil)))) (.nm 8) pushR)))))
theorem lab_ix0 (l : Lab) (ds : List Ds.D) {st : Sto} : idxD (l.D ds) (.int 0) st = .ok (.str l.sort) st := by
  cases l <;> simp [Lab.D, Lab.sort]
theorem lab_deref (l : Lab) (ds : List Ds.D) {st : Sto} : derefD (l.D ds) st = .ok (l.D ds) st := by
  cases l <;> simp [Lab.D]
theorem sort_turned (l : Lab) : decide (l.sort = ("turned" : Str)) = l.isT := by
  cases l <;> simp [Lab.sort, Lab.isT, ofString_inj]
theorem turn_rows {p : List Nat} {k : Kd} {up : Bool} {S : List D} {F : List D} {s0 s3 s4 s5 s6 s7 s8 : Option Sl} {st : Sto} (hp : p.length ≤ 1000) (hw : k.wf) (hS : S.length ≤ 50000) (hF : F.length ≤ 50000) :
    ∃ t3 t4 t5 t6 t7 t8, turnR [s0, some (.own F), some (.own (S ++ [itemD (p, k, up)])), s3, s4, s5, s6, s7, s8] st =
      .ok (.nx [s0, some (.own (F ++ [itemD (p, k, up)])), some (.own (S ++ ((kids p (up != k.lab.isT) 0 k.ks).map itemD).reverse)), t3, t4, t5, t6, t7, t8]) st := by
  obtain ⟨l, ks⟩ := k
  unfold Kd.wf at hw
  have hf : l.fits (Kd.Ds ks).length := by rw [kds_map, List.length_map]; exact hw.1
  have hks : ks.length ≤ 6 := by
    have := hw.1
    cases l <;> simp only [Lab.fits] at this <;> omega
  have z1 : F.length < sizeLine := by rw [sizeLine_eq]; omega
  have hl : (Kd.Ds ks).length = ks.length := by rw [kds_map, List.length_map]
  obtain ⟨z, e⟩ := push_rows (p := p) (up := up != l.isT) (ks := ks) (s0 := s0) (s1 := some (.own (F ++ [itemD (p, .mk l ks, up)]))) (s4 := some (.val (l.D (Kd.Ds ks)))) (s5 := some (.val (dirD up))) (st := st) hp (List.range ks.length).reverse S s8
    (fun i hi => by simpa using hi) (by simp; omega)
  rw [push_all] at e
  refine ⟨some (.val (pathD p)), some (.val (l.D (Kd.Ds ks))), some (.val (dirD up)), some (.val (dirD (up != l.isT))), some (.val (.tup (Kd.Ds ks))), z, ?_⟩
  have ek : (Kd.mk l ks).D = l.D (Kd.Ds ks) := by unfold Kd.D; rfl
  unfold turnR
  have er := r3_down (n := ks.length) (st := st) (by omega)
  cases hT : l.isT with
  | true =>
    rw [hT] at e
    simp only [itemD, ek] at e
    simp [itemD, ek, z1, smallLine, lab_ix0, lab_deref, eqD_str, sort_turned, hT, f_other, f_inner st hf, hl]
    rw [er, forK_ok, forR_fix]
    simpa [Kd.lab, Kd.ks, hT] using e
  | false =>
    rw [hT] at e
    simp only [itemD, ek] at e
    simp [itemD, ek, z1, smallLine, lab_ix0, lab_deref, eqD_str, sort_turned, hT, f_other, f_inner st hf, hl]
    rw [er, forK_ok, forR_fix]
    simpa [Kd.lab, Kd.ks, hT] using e
theorem kids_size (p : List Nat) (up : Bool) : ∀ (i : Nat) (ks : List Kd), ∀ x ∈ kids p up i ks, x.2.1.size ≤ Kd.sizes ks
  | _, [], x, h => by unfold kids at h; cases h
  | i, k :: ks, x, h => by
    unfold kids at h
    unfold Kd.sizes
    rcases List.mem_cons.mp h with h | h
    · subst h
      exact Nat.le_add_right _ _
    · exact Nat.le_trans (kids_size p up (i + 1) ks x h) (Nat.le_add_left _ _)
theorem sum_app (S T : List Item) : sumSize (S ++ T) = sumSize S + sumSize T := by simp [sumSize]
theorem walkI_eq (p : List Nat) (k : Kd) (up : Bool) : walkI (p, k, up) = (p, k, up) :: (kids p (up != k.lab.isT) 0 k.ks).flatMap walkI := by
  obtain ⟨l, ks⟩ := k
  show walk p up (.mk l ks) = _
  unfold walk
  rw [walks_kids]; rfl
noncomputable def condR : SB := fun ρ st => ((sOwn 2) ρ st).bind truD
/-- what may stand on a stack -/
def Fit (S : List Item) : Prop := ∀ x ∈ S, x.2.1.wf ∧ x.1.length + x.2.1.size ≤ 1000
theorem Fit.step {p : List Nat} {k : Kd} {up : Bool} {S : List Item} (h : Fit ((p, k, up) :: S)) (b : Bool) : Fit (kids p b 0 k.ks ++ S) ∧ sumSize (kids p b 0 k.ks ++ S) + 1 = sumSize ((p, k, up) :: S) := by
  obtain ⟨l, ks⟩ := k
  have h0 := h _ List.mem_cons_self
  obtain ⟨h1, h2⟩ := h0
  simp only at h1 h2
  unfold Kd.wf at h1
  unfold Kd.size at h2
  refine ⟨fun x hx => ?_, ?_⟩
  · rcases List.mem_append.mp hx with hx | hx
    · obtain ⟨q1, q2⟩ := kids_wf p b 0 ks h1.2 x hx
      have q3 := kids_size p b 0 ks x hx
      exact ⟨q1, by omega⟩
    · exact h x (List.mem_cons_of_mem _ hx)
  · rw [sum_app]
    show sumSize (kids p b 0 ks) + _ + 1 = _
    rw [kids_sum]
    simp only [sumSize, List.map_cons, List.sum_cons]
    show _ = (Kd.mk l ks).size + _
    unfold Kd.size
    omega
theorem loop_rows {s0 : Option Sl} {st : Sto} : ∀ (m : Nat) (S : List Item) (F : List D) (s3 s4 s5 s6 s7 s8 : Option Sl), sumSize S ≤ m → Fit S → F.length + sumSize S ≤ 10000 →
    ∃ t3 t4 t5 t6 t7 t8, qWhile condR turnR [s0, some (.own F), some (.own (S.map itemD).reverse), s3, s4, s5, s6, s7, s8] st = .ok (.nx [s0, some (.own (F ++ (S.flatMap walkI).map itemD)), some (.own []), t3, t4, t5, t6, t7, t8]) st
  | m, [], F, s3, s4, s5, s6, s7, s8, _, _, _ => by
    refine ⟨s3, s4, s5, s6, s7, s8, ?_⟩
    rw [qWhile_end (st1 := st) (by simp [condR])]
    simp
  | 0, x :: S, F, s3, s4, s5, s6, s7, s8, hm, _, _ => by
    have := len_sum (x :: S)
    rw [List.length_cons] at this
    omega
  | m + 1, (p, k, up) :: S, F, s3, s4, s5, s6, s7, s8, hm, hf, hz => by
    obtain ⟨hf2, hs⟩ := hf.step (up != k.lab.isT)
    have h0 := hf _ List.mem_cons_self
    obtain ⟨hw, hl⟩ := h0
    simp only at hw hl
    have hS : S.length ≤ sumSize ((p, k, up) :: S) := by
      have := len_sum ((p, k, up) :: S)
      rw [List.length_cons] at this
      omega
    obtain ⟨t3, t4, t5, t6, t7, t8, e1⟩ := turn_rows (p := p) (k := k) (up := up) (S := (S.map itemD).reverse) (F := F) (s0 := s0) (s3 := s3) (s4 := s4) (s5 := s5) (s6 := s6) (s7 := s7) (s8 := s8) (st := st) (by omega) hw (by rw [List.length_reverse, List.length_map]; omega) (by omega)
    obtain ⟨u3, u4, u5, u6, u7, u8, e2⟩ := loop_rows (s0 := s0) (st := st) m (kids p (up != k.lab.isT) 0 k.ks ++ S) (F ++ [itemD (p, k, up)]) t3 t4 t5 t6 t7 t8 (by omega) hf2 (by rw [List.length_append, List.length_singleton]; omega)
    refine ⟨u3, u4, u5, u6, u7, u8, ?_⟩
    rw [List.map_append, List.reverse_append] at e2
    rw [List.map_cons, List.reverse_cons, qWhile_next (st1 := st) (by simp [condR]) e1, e2]
    congr 4
    rw [List.flatMap_append, List.flatMap_cons, walkI_eq]
    simp
theorem f_rows {k : Kd} {st : Sto} (hw : k.wf) (hz : k.size ≤ 1000) : F_node_rows [k.D] st = .ok (.own ((walk [] true k).map itemD)) st := by
  unfold F_node_rows B_node_rows
  obtain ⟨t3, t4, t5, t6, t7, t8, e⟩ := loop_rows (s0 := some (.val k.D)) (st := st) k.size [([], k, true)] [] none none none none none none (by simp [sumSize]) (fun x hx => by
    simp only [List.mem_singleton] at hx
    subst hx
    exact ⟨hw, by simpa using hz⟩) (by simp [sumSize]; omega)
  have e' : qWhile (fun ρ st => ((sOwn 2) ρ st).bind truD) turnR [some (.val k.D), some (.own []), some (.own [itemD ([], k, true)]), none, none, none, none, none, none] st = _ := e
  unfold turnR pushR at e'
  simp [itemD, pathD, dirD] at e'
  simp [smallLine, e', walkI]
end KP
set_option Elab.async false
set_option linter.all false
set_option maxRecDepth 100000
set_option maxHeartbeats 1000000
set_option autoImplicit false
/-! PD: the plain law of k53: the law's own children, a node by its path. -/
namespace KP
open PySem PySem.Spec PyProof.Rows L2 Ds KG
theorem lstOf_tup {xs : List D} {st : Sto} : lstOfD (.tup xs) st = .ok xs st := rfl
theorem f_linner {l : Lab} {ds : List Ds.D} (st : Sto) (h : l.fits ds.length) : F__law_inner [l.D ds] st = .ok (.own ds) st := by
  unfold F__law_inner B__law_inner
  cases l with
  | row => simp [Lab.D, eqD_str, ofString_inj, lstOf_tup]
  | table es =>
    obtain ⟨h1, h2⟩ := h
    have : ds = [] := List.length_eq_zero_iff.mp h1
    subst this
    simp [Lab.D, eqD_str, ofString_inj, smallLine]
  | choice es =>
    obtain ⟨h1, h2⟩ := h
    have e : ∀ (x : D), lcL (stepC (.nm 1) bYes (sIx (sVar 1) (sC (.int 2))) [some (.val x), none]) (List.zipWith tripD es ds) [] st = .ok ds st := fun x => by
      rw [lcL_map (g := third) _ _ (fun d hd => ?_) (by simp [List.length_zipWith]; exact smallLine (by omega))]
      · simp [third_zip h1]
      · obtain ⟨p, d', rfl⟩ := trip_mem hd
        simp [stepC_eq, tripD, third]
    simp [Lab.D, eqD_str, ofString_inj, e]
  | list a b s =>
    have h1 : ds.length = 1 := h
    obtain ⟨d, rfl⟩ := List.length_eq_one_iff.mp h1
    simp [Lab.D, eqD_str, ofString_inj, smallLine]
  | turned =>
    have h1 : ds.length = 1 := h
    obtain ⟨d, rfl⟩ := List.length_eq_one_iff.mp h1
    simp [Lab.D, eqD_str, ofString_inj, smallLine]
theorem f_lwith {l : Lab} {ds : List Ds.D} {i : Nat} {d : Ds.D} (st : Sto) (h : l.fits ds.length) (hi : i < ds.length) : F__law_with [l.D ds, .int i, d] st = .ok (.val (l.D (ds.set i d))) st := by
  unfold F__law_with B__law_with
  cases l with
  | row =>
    have h6 : ds.length ≤ 6 := h
    have z1 : (ds.take i).length + 1 ≤ sizeLine := smallLine (by rw [List.length_take]; omega)
    have z2 : ((ds.take i).length + 1) + (ds.drop (i + 1)).length ≤ sizeLine := smallLine (by rw [List.length_take, List.length_drop]; omega)
    simp only [List.length_take, List.length_drop] at z1 z2
    simp [Lab.D, eqD_str, ofString_inj, smallLine, slice_take (Nat.le_of_lt hi), slice_drop' (show i + 1 ≤ ds.length from hi), addD_tup, z1, z2, set_cut hi]
  | table es => exact absurd hi (by rw [h.1]; exact Nat.not_lt_zero _)
  | choice es =>
    obtain ⟨h1, h2⟩ := h
    have hz : (List.zipWith tripD es ds).length = ds.length := by rw [List.length_zipWith, h1, Nat.min_self]
    have hi' : i < (List.zipWith tripD es ds).length := by rw [hz]; exact hi
    obtain ⟨p, hp⟩ : ∃ p, es[i]? = some p := ⟨_, List.getElem?_eq_getElem (by omega)⟩
    have hd := List.getElem?_eq_getElem hi
    have z1 : ((List.zipWith tripD es ds).take i).length + 1 ≤ sizeLine := smallLine (by rw [List.length_take]; omega)
    have z2 : (((List.zipWith tripD es ds).take i).length + 1) + ((List.zipWith tripD es ds).drop (i + 1)).length ≤ sizeLine := smallLine (by rw [List.length_take, List.length_drop]; omega)
    simp only [List.length_take, List.length_drop, List.length_zipWith] at z1 z2
    have e1 := set_cut (y := tripD p d) hi'
    rw [zip_set hp] at e1
    simp [Lab.D, eqD_str, ofString_inj, smallLine, slice_take (Nat.le_of_lt hi'), slice_drop' (show i + 1 ≤ _ from hi'), addD_tup, z1, z2, idx_tup (zip_get hp hd), tripD]
    exact e1
  | list a b s =>
    have h1 : ds.length = 1 := h
    obtain ⟨x, rfl⟩ := List.length_eq_one_iff.mp h1
    have : i = 0 := by simpa using hi
    subst this
    simp [Lab.D, eqD_str, ofString_inj, smallLine, slice_4, addD_tup]
  | turned =>
    have h1 : ds.length = 1 := h
    obtain ⟨x, rfl⟩ := List.length_eq_one_iff.mp h1
    have : i = 0 := by simpa using hi
    subst this
    simp [Lab.D, eqD_str, ofString_inj, smallLine]
/-! ### a node by its path; a node put -/
def get : Kd → List Nat → Option Kd
  | k, [] => some k
  | k, i :: p => match k.ks[i]? with
    | some c => get c p
    | none => none
def put : Kd → List Nat → Kd → Kd
  | _, [], q => q
  | .mk l ks, i :: p, q => match ks[i]? with
    | some c => .mk l (ks.set i (put c p q))
    | none => .mk l ks
theorem wfs_get : ∀ {ks : List Kd} {i : Nat} {c : Kd}, Kd.wfs ks → ks[i]? = some c → c.wf
  | [], i, c, _, h => by simp at h
  | k :: ks, 0, c, hw, h => by
    simp only [List.getElem?_cons_zero, Option.some.injEq] at h
    subst h
    unfold Kd.wfs at hw
    exact hw.1
  | k :: ks, i + 1, c, hw, h => by
    unfold Kd.wfs at hw
    exact wfs_get hw.2 (by simpa using h)
theorem kd_eq (l : Lab) (ks : List Kd) : (Kd.mk l ks).D = l.D (Kd.Ds ks) := by unfold Kd.D; rfl
theorem kd_deref (k : Kd) {st : Sto} : derefD k.D st = .ok k.D st := by
  obtain ⟨l, ks⟩ := k
  rw [kd_eq]
  exact lab_deref l _
/-- one step of node_or_none -/
noncomputable def stepN : SS := (qSeq (qSet 4 (sCall F_inner_kinds [] (sCons (sVar 2) sNil))) (qSeq (qIf (bOr (sTst (s1 (isiR "bool") (sVar 3))) (bOr (bNot (sTst (s1 (isiR "int") (sVar 3)))) (bNot (c3 (ordD true true) (ordD false false) (sC (.int 0)) (sVar 3) (sV (s1 lenD (sV (sVar 4)))))))) (qRet (sC .non)) qNil) (qSet 2 (sIx (sVar 4) (sVar 3)))))
theorem loop_get {s0 s1 : Option Sl} {st : Sto} : ∀ (p : List Nat) (k c : Kd) (s3 s4 : Option Sl), k.wf → get k p = some c →
    ∃ t3 t4, forL (stepT (.nm 3) stepN) (p.map fun (n : Nat) => D.int n) [s0, s1, some (.val k.D), s3, s4] st = .ok (.nx [s0, s1, some (.val c.D), t3, t4]) st
  | [], k, c, s3, s4, _, h => by
    simp only [get, Option.some.injEq] at h
    subst h
    exact ⟨s3, s4, rfl⟩
  | i :: p, .mk l ks, c, s3, s4, hw, h => by
    unfold Kd.wf at hw
    unfold get at h
    cases hk : (Kd.mk l ks).ks[i]? with
    | none => rw [hk] at h; cases h
    | some x =>
      rw [hk] at h
      have hk' : ks[i]? = some x := hk
      have hil : i < ks.length := (List.getElem?_eq_some_iff.mp hk').1
      have hd : (Kd.Ds ks)[i]? = some x.D := by rw [kds_map, List.getElem?_map, hk']; rfl
      have hl : (Kd.Ds ks).length = ks.length := by rw [kds_map, List.length_map]
      have hf : l.fits (Kd.Ds ks).length := by rw [hl]; exact hw.1
      obtain ⟨t3, t4, e⟩ := loop_get (s0 := s0) (s1 := s1) (st := st) p x c (some (.val (.int i))) (some (.val (.tup (Kd.Ds ks)))) (wfs_get hw.2 hk') h
      refine ⟨t3, t4, ?_⟩
      have one : stepT (.nm 3) stepN (.int i) [s0, s1, some (.val (Kd.mk l ks).D), s3, s4] st = .ok (.nx [s0, s1, some (.val x.D), some (.val (.int i)), some (.val (.tup (Kd.Ds ks)))]) st := by
        have n0 : ¬ ((i : Int) < 0) := by omega
        simp [stepT_eq, stepN, kd_eq, f_inner st hf, hl, idx_tup hd, hil, n0]
      rw [List.map_cons]
      show (stepT (.nm 3) stepN (.int i) _ st).bind _ = _
      rw [one]
      exact e
theorem get_wf : ∀ (p : List Nat) (k c : Kd), k.wf → get k p = some c → c.wf
  | [], k, c, hw, h => by
    simp only [get, Option.some.injEq] at h
    subst h; exact hw
  | i :: p, .mk l ks, c, hw, h => by
    unfold Kd.wf at hw
    unfold get at h
    cases hk : (Kd.mk l ks).ks[i]? with
    | none => rw [hk] at h; cases h
    | some x =>
      rw [hk] at h
      exact get_wf p x c (wfs_get hw.2 hk) h
theorem f_get {k c : Kd} {p : List Nat} {st : Sto} (hw : k.wf) (h : get k p = some c) : F_node_or_none [k.D, pathD p] st = .ok (.val c.D) st := by
  unfold F_node_or_none B_node_or_none
  obtain ⟨t3, t4, e⟩ := loop_get (s0 := some (.val k.D)) (s1 := some (.val (pathD p))) (st := st) p k c none none hw h
  unfold stepN at e
  simp only [pathD] at e
  simp [pathD, e]
/-! ### the way down, then up again -/
/-- the nodes along a path -/
def spine : Kd → List Nat → List Kd
  | _, [] => []
  | k, i :: p => k :: (match k.ks[i]? with
    | some c => spine c p
    | none => [])
noncomputable def downL : SS := (qSeq (qM 3 kApp (sCons (sVar 4) sNil)) (qSet 4 (sIx (sCall F__law_inner [] (sCons (sVar 4) sNil)) (sVar 5))))
noncomputable def downP : SS := (qSeq (qM 3 kApp (sCons (sVar 4) sNil)) (qSet 4 (sIx (sCall F_inner_kinds [] (sCons (sVar 4) sNil)) (sVar 5))))
theorem loop_downL {s0 s1 s2 s6 s7 : Option Sl} {st : Sto} : ∀ (p : List Nat) (k c : Kd) (S : List D) (s5 : Option Sl), k.wf → get k p = some c → S.length + p.length ≤ 10000 →
    ∃ t4 t5, forL (stepT (.nm 5) downL) (p.map fun (n : Nat) => D.int n) [s0, s1, s2, some (.own S), some (.val k.D), s5, s6, s7] st = .ok (.nx [s0, s1, s2, some (.own (S ++ (spine k p).map Kd.D)), t4, t5, s6, s7]) st
  | [], k, c, S, s5, _, h, _ => ⟨some (.val k.D), s5, by simp [spine]⟩
  | i :: p, .mk l ks, c, S, s5, hw, h, hz => by
    unfold Kd.wf at hw
    unfold get at h
    rw [List.length_cons] at hz
    cases hk : (Kd.mk l ks).ks[i]? with
    | none => rw [hk] at h; cases h
    | some x =>
      rw [hk] at h
      have hk' : ks[i]? = some x := hk
      have hd : (Kd.Ds ks)[i]? = some x.D := by rw [kds_map, List.getElem?_map, hk']; rfl
      have hl : (Kd.Ds ks).length = ks.length := by rw [kds_map, List.length_map]
      have hf : l.fits (Kd.Ds ks).length := by rw [hl]; exact hw.1
      have z : S.length < sizeLine := by rw [sizeLine_eq]; omega
      obtain ⟨t4, t5, e⟩ := loop_downL (s0 := s0) (s1 := s1) (s2 := s2) (s6 := s6) (s7 := s7) (st := st) p x c (S ++ [(Kd.mk l ks).D]) (some (.val (.int i))) (wfs_get hw.2 hk') h (by simp; omega)
      refine ⟨t4, t5, ?_⟩
      have one : stepT (.nm 5) downL (.int i) [s0, s1, s2, some (.own S), some (.val (Kd.mk l ks).D), s5, s6, s7] st = .ok (.nx [s0, s1, s2, some (.own (S ++ [(Kd.mk l ks).D])), some (.val x.D), some (.val (.int i)), s6, s7]) st := by
        simp [stepT_eq, downL, kd_eq, f_linner st hf, z, idx_lst hd]
      have es : spine (.mk l ks) (i :: p) = .mk l ks :: spine x p := by
        show _ :: (match ks[i]? with | some c => spine c p | none => []) = _
        rw [hk']
      rw [List.map_cons]
      show (stepT (.nm 5) downL (.int i) _ st).bind _ = _
      rw [one]
      show forL _ _ _ st = _
      rw [e, es]
      simp
end KP
set_option Elab.async false
set_option linter.all false
set_option maxRecDepth 100000
set_option maxHeartbeats 1000000
set_option autoImplicit false
/-! PE: the plain law of k53: a node is put. -/
namespace KP
open PySem PySem.Spec PyProof.Rows L2 Ds KG
/-- the turns of a loop, none of which breaks -/
inductive Runs (step : D → SS) : List D → En → Sto → En → Sto → Prop where
  | nil {ρ : En} {st : Sto} : Runs step [] ρ st ρ st
  | cons {d : D} {ds : List D} {ρ ρ1 ρ2 : En} {st st1 st2 : Sto} (h : step d ρ st = .ok (.nx ρ1) st1) (t : Runs step ds ρ1 st1 ρ2 st2) : Runs step (d :: ds) ρ st ρ2 st2
theorem Runs.append {step : D → SS} {xs ys : List D} {ρ ρ1 ρ2 : En} {st st1 st2 : Sto} (a : Runs step xs ρ st ρ1 st1) (b : Runs step ys ρ1 st1 ρ2 st2) : Runs step (xs ++ ys) ρ st ρ2 st2 := by
  induction a with
  | nil => exact b
  | cons h t ih => exact .cons h (ih b)
theorem Runs.forL {step : D → SS} {xs : List D} {ρ ρ1 : En} {st st1 : Sto} (a : Runs step xs ρ st ρ1 st1) : Ds.forL step xs ρ st = .ok (.nx ρ1) st1 := by
  induction a with
  | nil => rfl
  | cons h t ih =>
    show (step _ _ _).bind _ = _
    rw [h]
    exact ih
def downs (b : Nat) : Nat → List Nat
  | 0 => []
  | n + 1 => downs (b + 1) n ++ [b]
theorem downs_eq : ∀ (n b : Nat), downs b n = ((List.range n).map (fun j => b + j)).reverse
  | 0, b => rfl
  | n + 1, b => by
    rw [downs, downs_eq n (b + 1), List.range_succ_eq_map, List.map_cons, List.reverse_cons, List.map_map]
    congr 2
    refine List.map_congr_left fun j _ => ?_
    simp only [Function.comp_apply]
    omega
theorem downs_range (n : Nat) : (List.range n).reverse = downs 0 n := by
  rw [downs_eq]
  congr 1
  simp
/-- one node of the way up in put_at, in the law's own -/
noncomputable def upP : SS := (qSet 6 (sCall F_with_inner [] (sCons (sIx (sOwn 3) (sVar 7)) (sCons (sIx (sVar 1) (sVar 7)) (sCons (sVar 6) sNil)))))
theorem put_D (l : Lab) (ks : List Kd) (i : Nat) (x : Kd) : (Kd.Ds ks).set i x.D = Kd.Ds (ks.set i x) := by
  rw [kds_map, kds_map, List.map_set]
theorem up_rows {s0 s2 s4 s5 : Option Sl} {st : Sto} (P : List Nat) (Sp : List Kd) (q : Kd) : ∀ (p : List Nat) (b : Nat) (k c : Kd) (s7 : Option Sl), k.wf → get k p = some c → P.drop b = p → Sp.drop b = spine k p →
    ∃ t7, Runs (stepT (.nm 7) upP) ((downs b p.length).map fun (n : Nat) => D.int n) [s0, some (.val (pathD P)), s2, some (.own (Sp.map Kd.D)), s4, s5, some (.val q.D), s7] st [s0, some (.val (pathD P)), s2, some (.own (Sp.map Kd.D)), s4, s5, some (.val (put k p q).D), t7] st
  | [], b, k, c, s7, _, _, _, _ => ⟨s7, by
    obtain ⟨l, ks⟩ := k
    exact .nil⟩
  | i :: p, b, .mk l ks, c, s7, hw, h, hP, hS => by
    unfold Kd.wf at hw
    unfold get at h
    cases hk : (Kd.mk l ks).ks[i]? with
    | none => rw [hk] at h; cases h
    | some x =>
      rw [hk] at h
      have hk' : ks[i]? = some x := hk
      have hil : i < ks.length := (List.getElem?_eq_some_iff.mp hk').1
      have hl : (Kd.Ds ks).length = ks.length := by rw [kds_map, List.length_map]
      have hf : l.fits (Kd.Ds ks).length := by rw [hl]; exact hw.1
      have es : spine (.mk l ks) (i :: p) = .mk l ks :: spine x p := by
        show _ :: (match ks[i]? with | some c => spine c p | none => []) = _
        rw [hk']
      rw [es] at hS
      have hPb : P[b]? = some i := by
        have := congrArg (fun l => l[0]?) hP
        simpa using this
      have hSb : Sp[b]? = some (.mk l ks) := by
        have := congrArg (fun l => l[0]?) hS
        simpa using this
      have hP2 : P.drop (b + 1) = p := by
        have := congrArg (fun l => l.drop 1) hP
        simpa using this
      have hS2 : Sp.drop (b + 1) = spine x p := by
        have := congrArg (fun l => l.drop 1) hS
        simpa using this
      obtain ⟨t7, r⟩ := up_rows (s0 := s0) (s2 := s2) (s4 := s4) (s5 := s5) (st := st) P Sp q p (b + 1) x c s7 (wfs_get hw.2 hk') h hP2 hS2
      have ep : put (.mk l ks) (i :: p) q = .mk l (ks.set i (put x p q)) := by
        show (match ks[i]? with | some c => Kd.mk l (ks.set i (put c p q)) | none => .mk l ks) = _
        rw [hk']
      have i1 : (Sp.map Kd.D)[b]? = some (l.D (Kd.Ds ks)) := by rw [List.getElem?_map, hSb, Option.map_some, kd_eq]
      have i2 : (P.map fun (n : Nat) => D.int n)[b]? = some (.int i) := by rw [List.getElem?_map, hPb]; rfl
      have one : stepT (.nm 7) upP (.int b) [s0, some (.val (pathD P)), s2, some (.own (Sp.map Kd.D)), s4, s5, some (.val (put x p q).D), t7] st = .ok (.nx [s0, some (.val (pathD P)), s2, some (.own (Sp.map Kd.D)), s4, s5, some (.val (put (.mk l ks) (i :: p) q).D), some (.val (.int b))]) st := by
        rw [ep, kd_eq, ← put_D l]
        have e3 := f_with (l := l) (ds := Kd.Ds ks) (i := i) (d := (put x p q).D) st hf (by rw [hl]; exact hil)
        simp [stepT_eq, upP, pathD, idx_lst i1, idx_tup i2, e3]
      refine ⟨some (.val (.int b)), ?_⟩
      rw [List.length_cons, downs, List.map_append]
      exact r.append (.cons one .nil)
/-- one node of the way up in the law's own -/
noncomputable def upL : SS := (qSeq (qSet 7 (s2 subD (s2 subD (s1 lenD (sV (sVar 1))) (sC (.int 1))) (sVar 6))) (qSet 2 (sCall F__law_with [] (sCons (sIx (sOwn 3) (sVar 7)) (sCons (sIx (sVar 1) (sVar 7)) (sCons (sVar 2) sNil))))))
theorem up_lrows {s0 s4 s5 : Option Sl} {st : Sto} (P : List Nat) (Sp : List Kd) (q : Kd) : ∀ (p : List Nat) (b : Nat) (k c : Kd) (s6 s7 : Option Sl), k.wf → get k p = some c → P.drop b = p → Sp.drop b = spine k p → b + p.length = P.length →
    ∃ t6 t7, Runs (stepT (.nm 6) upL) ((downs b p.length).map fun (j : Nat) => D.int ((P.length - 1 - j : Nat) : Int)) [s0, some (.val (pathD P)), some (.val q.D), some (.own (Sp.map Kd.D)), s4, s5, s6, s7] st [s0, some (.val (pathD P)), some (.val (put k p q).D), some (.own (Sp.map Kd.D)), s4, s5, t6, t7] st
  | [], b, k, c, s6, s7, _, _, _, _, _ => ⟨s6, s7, by
    obtain ⟨l, ks⟩ := k
    exact .nil⟩
  | i :: p, b, .mk l ks, c, s6, s7, hw, h, hP, hS, hn => by
    unfold Kd.wf at hw
    unfold get at h
    rw [List.length_cons] at hn
    cases hk : (Kd.mk l ks).ks[i]? with
    | none => rw [hk] at h; cases h
    | some x =>
      rw [hk] at h
      have hk' : ks[i]? = some x := hk
      have hil : i < ks.length := (List.getElem?_eq_some_iff.mp hk').1
      have hl : (Kd.Ds ks).length = ks.length := by rw [kds_map, List.length_map]
      have hf : l.fits (Kd.Ds ks).length := by rw [hl]; exact hw.1
      have es : spine (.mk l ks) (i :: p) = .mk l ks :: spine x p := by
        show _ :: (match ks[i]? with | some c => spine c p | none => []) = _
        rw [hk']
      rw [es] at hS
      have hPb : P[b]? = some i := by
        have := congrArg (fun l => l[0]?) hP
        simpa using this
      have hSb : Sp[b]? = some (.mk l ks) := by
        have := congrArg (fun l => l[0]?) hS
        simpa using this
      have hP2 : P.drop (b + 1) = p := by
        have := congrArg (fun l => l.drop 1) hP
        simpa using this
      have hS2 : Sp.drop (b + 1) = spine x p := by
        have := congrArg (fun l => l.drop 1) hS
        simpa using this
      obtain ⟨t6, t7, r⟩ := up_lrows (s0 := s0) (s4 := s4) (s5 := s5) (st := st) P Sp q p (b + 1) x c s6 s7 (wfs_get hw.2 hk') h hP2 hS2 (by omega)
      have ep : put (.mk l ks) (i :: p) q = .mk l (ks.set i (put x p q)) := by
        show (match ks[i]? with | some c => Kd.mk l (ks.set i (put c p q)) | none => .mk l ks) = _
        rw [hk']
      have i1 : (Sp.map Kd.D)[b]? = some (l.D (Kd.Ds ks)) := by rw [List.getElem?_map, hSb, Option.map_some, kd_eq]
      have i2 : (P.map fun (n : Nat) => D.int n)[b]? = some (.int i) := by rw [List.getElem?_map, hPb]; rfl
      generalize hj : P.length - 1 - b = j
      have ej : (P.length : Int) - 1 - (j : Int) = (b : Int) := by omega
      have one : stepT (.nm 6) upL (.int j) [s0, some (.val (pathD P)), some (.val (put x p q).D), some (.own (Sp.map Kd.D)), s4, s5, t6, t7] st = .ok (.nx [s0, some (.val (pathD P)), some (.val (put (.mk l ks) (i :: p) q).D), some (.own (Sp.map Kd.D)), s4, s5, some (.val (.int j)), some (.val (.int b))]) st := by
        rw [ep, kd_eq, ← put_D l]
        have e3 := f_lwith (l := l) (ds := Kd.Ds ks) (i := i) (d := (put x p q).D) st hf (by rw [hl]; exact hil)
        simp [stepT_eq, upL, pathD, ej, idx_lst i1, idx_tup i2, e3]
      refine ⟨some (.val (.int j)), some (.val (.int b)), ?_⟩
      rw [List.length_cons, downs, List.map_append]
      refine r.append ?_
      rw [List.map_singleton, hj]
      exact .cons one .nil
theorem spine_len : ∀ (p : List Nat) (k c : Kd), get k p = some c → (spine k p).length = p.length
  | [], _, _, _ => rfl
  | i :: p, k, c, h => by
    unfold get at h
    unfold spine
    cases hk : k.ks[i]? with
    | none => rw [hk] at h; cases h
    | some x =>
      rw [hk] at h
      rw [List.length_cons, List.length_cons]
      show (spine x p).length + 1 = _
      rw [spine_len p x c h]
theorem downs_up (n : Nat) : ((downs 0 n).map fun (j : Nat) => D.int ((n - 1 - j : Nat) : Int)) = rng 0 1 n := by
  rw [← downs_range]
  refine List.ext_getElem? fun i => ?_
  rw [List.getElem?_map, rng_get]
  by_cases h : i < n
  · rw [if_pos h, List.getElem?_reverse (by rw [List.length_range]; exact h), List.length_range, List.getElem?_range (by omega)]
    simp only [Option.map_some]
    congr 2
    omega
  · rw [if_neg h, List.getElem?_eq_none (by rw [List.length_reverse, List.length_range]; omega)]; rfl
theorem r1_ok {n : Nat} {st : Sto} (h : n ≤ 1000000) : r1D [.int (n : Int)] st = .ok (.fix (rng 0 1 n)) st := by
  have h1 : -(2 ^ 62) ≤ (n : Int) := by omega
  have h2 : (n : Int) < 2 ^ 62 := by omega
  simp only [r1D]
  rw [if_pos (And.intro h1 h2), Int.toNat_natCast]
theorem seq_go {q r : SS} {ρ ρ1 : En} {st st1 : Sto} (h : q ρ st = .ok (.nx ρ1) st1) : qSeq q r ρ st = r ρ1 st1 := by
  rw [qSeq_eq, h, seqK_nx]
theorem for_go {fi : SI} {t : Tgt} {q : SS} {ρ : En} {st : Sto} {ds : List D} {X : Out Fl} (h : fi ρ st = .ok (.fix ds) st) (h2 : forL (stepT t q) ds ρ st = X) : qFor fi t q ρ st = X := by
  rw [qFor_eq, h, forK_ok, forR_fix, h2]
/-- the law's put -/
theorem f_lput {k c q : Kd} {p : List Nat} {st : Sto} (hw : k.wf) (h : get k p = some c) (hp : p.length ≤ 1000) : F__law_put [k.D, pathD p, q.D] st = .ok (.val (put k p q).D) st := by
  obtain ⟨t4, t5, e1⟩ := loop_downL (s0 := some (.val k.D)) (s1 := some (.val (pathD p))) (s2 := some (.val q.D)) (s6 := none) (s7 := none) (st := st) p k c [] none hw h (by simp; omega)
  obtain ⟨t6, t7, r⟩ := up_lrows (s0 := some (.val k.D)) (s4 := t4) (s5 := t5) (st := st) p (spine k p) q p 0 k c none none hw h rfl rfl (by omega)
  rw [downs_up] at r
  rw [List.nil_append] at e1
  have e2 := r.forL
  have e3 := r1_ok (n := p.length) (st := st) (by omega)
  have g3 : ∀ ρ : En, ρ[1]? = some (some (.val (pathD p))) → sItA r1D (sCons (s1 lenD (sV (sVar 1))) sNil) ρ st = .ok (.fix (rng 0 1 p.length)) st := fun ρ hρ => by
    have : sCons (s1 lenD (sV (sVar 1))) sNil ρ st = .ok [.int p.length] st := by simp [hρ, pathD]
    rw [sItA_eq, this, itAK_ok, e3]
  have b : B__law_put [some (.val k.D), some (.val (pathD p)), some (.val q.D), none, none, none, none, none] st = .ok (.rt (.val (put k p q).D)) st := by
    unfold downL at e1
    unfold upL at e2
    unfold B__law_put
    rw [seq_go (ρ1 := [some (.val k.D), some (.val (pathD p)), some (.val q.D), some (.own []), none, none, none, none]) (st1 := st) (by simp [smallLine])]
    rw [seq_go (ρ1 := [some (.val k.D), some (.val (pathD p)), some (.val q.D), some (.own []), some (.val k.D), none, none, none]) (st1 := st) (by simp)]
    rw [seq_go (for_go (by simp [pathD]) e1)]
    rw [seq_go (for_go (g3 _ rfl) e2)]
    simp
  unfold F__law_put
  simp [b]
end KP
set_option Elab.async false
set_option linter.all false
set_option maxRecDepth 100000
set_option maxHeartbeats 1000000
set_option autoImplicit false
/-! PF: the plain law of k53: put_at behind its checks; a direction by a path. -/
namespace KP
open PySem PySem.Spec PyProof.Rows L2 Ds KG
theorem loop_downP {s0 s1 s2 s6 s7 : Option Sl} {st : Sto} : ∀ (p : List Nat) (k c : Kd) (S : List D) (s5 : Option Sl), k.wf → get k p = some c → S.length + p.length ≤ 10000 →
    ∃ t4 t5, forL (stepT (.nm 5) downP) (p.map fun (n : Nat) => D.int n) [s0, s1, s2, some (.own S), some (.val k.D), s5, s6, s7] st = .ok (.nx [s0, s1, s2, some (.own (S ++ (spine k p).map Kd.D)), t4, t5, s6, s7]) st
  | [], k, c, S, s5, _, h, _ => ⟨some (.val k.D), s5, by simp [spine]⟩
  | i :: p, .mk l ks, c, S, s5, hw, h, hz => by
    unfold Kd.wf at hw
    unfold get at h
    rw [List.length_cons] at hz
    cases hk : (Kd.mk l ks).ks[i]? with
    | none => rw [hk] at h; cases h
    | some x =>
      rw [hk] at h
      have hk' : ks[i]? = some x := hk
      have hd : (Kd.Ds ks)[i]? = some x.D := by rw [kds_map, List.getElem?_map, hk']; rfl
      have hl : (Kd.Ds ks).length = ks.length := by rw [kds_map, List.length_map]
      have hf : l.fits (Kd.Ds ks).length := by rw [hl]; exact hw.1
      have z : S.length < sizeLine := by rw [sizeLine_eq]; omega
      obtain ⟨t4, t5, e⟩ := loop_downP (s0 := s0) (s1 := s1) (s2 := s2) (s6 := s6) (s7 := s7) (st := st) p x c (S ++ [(Kd.mk l ks).D]) (some (.val (.int i))) (wfs_get hw.2 hk') h (by simp; omega)
      refine ⟨t4, t5, ?_⟩
      have one : stepT (.nm 5) downP (.int i) [s0, s1, s2, some (.own S), some (.val (Kd.mk l ks).D), s5, s6, s7] st = .ok (.nx [s0, s1, s2, some (.own (S ++ [(Kd.mk l ks).D])), some (.val x.D), some (.val (.int i)), s6, s7]) st := by
        simp [stepT_eq, downP, kd_eq, f_inner st hf, z, idx_tup hd]
      have es : spine (.mk l ks) (i :: p) = .mk l ks :: spine x p := by
        show _ :: (match ks[i]? with | some c => spine c p | none => []) = _
        rw [hk']
      rw [List.map_cons]
      show (stepT (.nm 5) downP (.int i) _ st).bind _ = _
      rw [one]
      show forL _ _ _ st = _
      rw [e, es]
      simp
/-- put_at, its checks passed -/
theorem f_put {k c q : Kd} {p : List Nat} {st : Sto} (hw : k.wf) (h : get k p = some c) (hp : p.length ≤ 1000) (c1 : F_check_kind [k.D, .bl false] st = .ok (.val .non) st) (c2' : F_check_kind [q.D, .bl false] st = .ok (.val .non) st) (c3' : F_check_kind [(put k p q).D, .bl false] st = .ok (.val .non) st)
    (hc : c.D ≠ .non) : F_put_at [k.D, pathD p, q.D] st = .ok (.val (put k p q).D) st := by
  obtain ⟨t4, t5, e1⟩ := loop_downP (s0 := some (.val k.D)) (s1 := some (.val (pathD p))) (s2 := some (.val q.D)) (s6 := none) (s7 := none) (st := st) p k c [] none hw h (by simp; omega)
  obtain ⟨t7, r⟩ := up_rows (s0 := some (.val k.D)) (s2 := some (.val q.D)) (s4 := t4) (s5 := t5) (st := st) p (spine k p) q p 0 k c none hw h rfl rfl
  rw [← downs_range] at r
  rw [List.nil_append] at e1
  have e2 := r.forL
  have e3 := r3_down (n := p.length) (st := st) (by omega)
  have g3 : ∀ ρ : En, ρ[1]? = some (some (.val (pathD p))) → sItA r3D (sCons (s2 subD (s1 lenD (sV (sVar 1))) (sC (.int 1))) (sCons (s1 negD (sC (.int 1))) (sCons (s1 negD (sC (.int 1))) sNil))) ρ st = .ok (.fix ((List.range p.length).reverse.map fun (i : Nat) => D.int i)) st := fun ρ hρ => by
    have : sCons (s2 subD (s1 lenD (sV (sVar 1))) (sC (.int 1))) (sCons (s1 negD (sC (.int 1))) (sCons (s1 negD (sC (.int 1))) sNil)) ρ st = .ok [.int (p.length - 1), .int (-1), .int (-1)] st := by simp [hρ, pathD]
    rw [sItA_eq, this, itAK_ok, e3]
  have ng : F_node_or_none [k.D, pathD p] st = .ok (.val c.D) st := f_get hw h
  have b : B_put_at [some (.val k.D), some (.val (pathD p)), some (.val q.D), none, none, none, none, none] st = .ok (.rt (.val (put k p q).D)) st := by
    unfold downP at e1
    unfold upP at e2
    unfold B_put_at
    rw [seq_go (ρ1 := [some (.val k.D), some (.val (pathD p)), some (.val q.D), none, none, none, none, none]) (st1 := st) (by simp [c1])]
    have nn : isNB id c.D .non st = .ok false st := by
      cases e : c.D <;> first | exact absurd e hc | rfl
    rw [seq_go (ρ1 := [some (.val k.D), some (.val (pathD p)), some (.val q.D), none, none, none, none, none]) (st1 := st) (by simp [ng, nn])]
    rw [seq_go (ρ1 := [some (.val k.D), some (.val (pathD p)), some (.val q.D), none, none, none, none, none]) (st1 := st) (by simp [c2'])]
    rw [seq_go (ρ1 := [some (.val k.D), some (.val (pathD p)), some (.val q.D), some (.own []), none, none, none, none]) (st1 := st) (by simp [smallLine])]
    rw [seq_go (ρ1 := [some (.val k.D), some (.val (pathD p)), some (.val q.D), some (.own []), some (.val k.D), none, none, none]) (st1 := st) (by simp)]
    rw [seq_go (for_go (by simp [pathD]) e1)]
    rw [seq_go (ρ1 := [some (.val k.D), some (.val (pathD p)), some (.val q.D), some (.own ((spine k p).map Kd.D)), t4, t5, some (.val q.D), none]) (st1 := st) (by simp)]
    rw [seq_go (for_go (g3 _ rfl) e2)]
    simp [c3']
  unfold F_put_at
  simp [b]
/-! ### a direction by a path -/
def dirAt : Kd → List Nat → Bool → Bool
  | _, [], up => up
  | k, i :: p, up => match k.ks[i]? with
    | some c => dirAt c p (up != k.lab.isT)
    | none => up
noncomputable def stepDir : SS := (qSeq (qIf (c2 eqD (sIx (sVar 3) (sC (.int 0))) (sV (sC (.str "turned")))) (qSet 2 (sCall F_other_direction [] (sCons (sVar 2) sNil))) qNil) (qSet 3 (sIx (sCall F_inner_kinds [] (sCons (sVar 3) sNil)) (sVar 4))))
theorem loop_dir {s0 s1 : Option Sl} {st : Sto} : ∀ (p : List Nat) (k c : Kd) (up : Bool) (s4 : Option Sl), k.wf → get k p = some c →
    ∃ t3 t4, forL (stepT (.nm 4) stepDir) (p.map fun (n : Nat) => D.int n) [s0, s1, some (.val (dirD up)), some (.val k.D), s4] st = .ok (.nx [s0, s1, some (.val (dirD (dirAt k p up))), t3, t4]) st
  | [], k, c, up, s4, _, h => ⟨some (.val k.D), s4, by simp [dirAt]⟩
  | i :: p, .mk l ks, c, up, s4, hw, h => by
    unfold Kd.wf at hw
    unfold get at h
    cases hk : (Kd.mk l ks).ks[i]? with
    | none => rw [hk] at h; cases h
    | some x =>
      rw [hk] at h
      have hk' : ks[i]? = some x := hk
      have hd : (Kd.Ds ks)[i]? = some x.D := by rw [kds_map, List.getElem?_map, hk']; rfl
      have hl : (Kd.Ds ks).length = ks.length := by rw [kds_map, List.length_map]
      have hf : l.fits (Kd.Ds ks).length := by rw [hl]; exact hw.1
      obtain ⟨t3, t4, e⟩ := loop_dir (s0 := s0) (s1 := s1) (st := st) p x c (up != l.isT) (some (.val (.int i))) (wfs_get hw.2 hk') h
      refine ⟨t3, t4, ?_⟩
      have one : stepT (.nm 4) stepDir (.int i) [s0, s1, some (.val (dirD up)), some (.val (Kd.mk l ks).D), s4] st = .ok (.nx [s0, s1, some (.val (dirD (up != l.isT))), some (.val x.D), some (.val (.int i))]) st := by
        cases hT : l.isT <;> simp [stepT_eq, stepDir, kd_eq, lab_ix0, lab_deref, eqD_str, sort_turned, hT, f_other, f_inner st hf, idx_tup hd]
      have es : dirAt (.mk l ks) (i :: p) up = dirAt x p (up != l.isT) := by
        show (match ks[i]? with | some c => dirAt c p (up != l.isT) | none => up) = _
        rw [hk']
      rw [List.map_cons]
      show (stepT (.nm 4) stepDir (.int i) _ st).bind _ = _
      rw [one]
      show forL _ _ _ st = _
      rw [e, es]
theorem f_dir {k c : Kd} {p : List Nat} {st : Sto} (hw : k.wf) (h : get k p = some c) : F_direction_at [k.D, pathD p] st = .ok (.val (dirD (dirAt k p true))) st := by
  obtain ⟨t3, t4, e⟩ := loop_dir (s0 := some (.val k.D)) (s1 := some (.val (pathD p))) (st := st) p k c true none hw h
  have b : B_direction_at [some (.val k.D), some (.val (pathD p)), none, none, none] st = .ok (.rt (.val (dirD (dirAt k p true)))) st := by
    unfold stepDir at e
    unfold B_direction_at
    rw [seq_go (ρ1 := [some (.val k.D), some (.val (pathD p)), some (.val (dirD true)), none, none]) (st1 := st) (by simp [dirD])]
    rw [seq_go (ρ1 := [some (.val k.D), some (.val (pathD p)), some (.val (dirD true)), some (.val k.D), none]) (st1 := st) (by simp)]
    rw [seq_go (for_go (by simp [pathD]) e)]
    simp
  unfold F_direction_at
  simp [b]
end KP
set_option Elab.async false
set_option linter.all false
set_option maxRecDepth 100000
set_option maxHeartbeats 1000000
set_option autoImplicit false
/-! PG: the plain law of k53: the law's own walk. -/
namespace KP
open PySem PySem.Spec PyProof.Rows L2 Ds KG
def litemD (x : Item) : D := .tup [pathD x.1, x.2.1.D, .bl x.2.2]
noncomputable def pushL : SS := (qSeq (qSet 9 (s2 subD (s2 subD (s1 lenD (sV (sVar 7))) (sC (.int 1))) (sVar 8))) (qM 2 kApp (sCons (sTup (sCons (s2 addD (sVar 4) (sTup (sCons (sVar 9) sNil))) (sCons (sIx (sVar 7) (sVar 9)) (sCons (sB (c2 neD (sVar 6) (sV (sB (c2 eqD (sIx (sVar 5) (sC (.int 0))) (sV (sC (.str "turned")))))))) sNil)))) sNil)))
theorem neD_bl {a b : Bool} {st : Sto} : neD (.bl a) (.bl b) st = .ok (a != b) st := by
  unfold neD
  rw [if_pos ⟨rfl, rfl, by simp [D.py, PyData.depth]⟩]
  cases a <;> cases b <;> rfl
theorem push_lrows {p : List Nat} {up : Bool} {l : Lab} {ks : List Kd} {s0 s1 s3 : Option Sl} {st : Sto} (hp : p.length ≤ 1000) : ∀ (L : List Nat) (S : List D) (s8 s9 : Option Sl), (∀ j ∈ L, j < ks.length) → S.length + L.length ≤ 100000 →
    ∃ z y, forL (stepT (.nm 8) pushL) (L.map fun (j : Nat) => D.int ((ks.length - 1 - j : Nat) : Int)) [s0, s1, some (.own S), s3, some (.val (pathD p)), some (.val (l.D (Kd.Ds ks))), some (.val (.bl up)), some (.val (.lst (Kd.Ds ks))), s8, s9] st =
      .ok (.nx [s0, s1, some (.own (S ++ L.map fun j => litemD ((kids p (up != l.isT) 0 ks).getD j ([], .mk .row [], true)))), s3, some (.val (pathD p)), some (.val (l.D (Kd.Ds ks))), some (.val (.bl up)), some (.val (.lst (Kd.Ds ks))), z, y]) st
  | [], S, s8, s9, _, _ => ⟨s8, s9, by simp⟩
  | j :: L, S, s8, s9, hi, hz => by
    have h1 := hi j List.mem_cons_self
    obtain ⟨k, hk⟩ : ∃ k, ks[j]? = some k := ⟨_, List.getElem?_eq_getElem h1⟩
    have hd : (Kd.Ds ks)[j]? = some k.D := by rw [kds_map, List.getElem?_map, hk]; rfl
    have hl : (Kd.Ds ks).length = ks.length := by rw [kds_map, List.length_map]
    have hg : (kids p (up != l.isT) 0 ks).getD j ([], .mk .row [], true) = (p ++ [j], k, up != l.isT) := by
      rw [List.getD_eq_getElem?_getD, kids_get p (up != l.isT) 0 ks j k hk]
      simp
    rw [List.length_cons] at hz
    have z1 : p.length + 1 ≤ sizeLine := by rw [sizeLine_eq]; omega
    have z2 : S.length < sizeLine := by rw [sizeLine_eq]; omega
    generalize hi' : ks.length - 1 - j = i
    have ej : (ks.length : Int) - 1 - (i : Int) = (j : Int) := by omega
    have one : stepT (.nm 8) pushL (.int i) [s0, s1, some (.own S), s3, some (.val (pathD p)), some (.val (l.D (Kd.Ds ks))), some (.val (.bl up)), some (.val (.lst (Kd.Ds ks))), s8, s9] st =
        .ok (.nx [s0, s1, some (.own (S ++ [litemD (p ++ [j], k, up != l.isT)])), s3, some (.val (pathD p)), some (.val (l.D (Kd.Ds ks))), some (.val (.bl up)), some (.val (.lst (Kd.Ds ks))), some (.val (.int i)), some (.val (.int j))]) st := by
      have ea : addD (pathD p) (.tup [.int j]) st = .ok (pathD (p ++ [j])) st := by
        unfold pathD
        rw [addD_tup, if_pos (by simpa using z1)]
        simp
      simp [stepT_eq, pushL, smallLine, hl, ej, ea, idx_lst hd, z2, litemD, lab_ix0, lab_deref, eqD_str, sort_turned, neD_bl]
    obtain ⟨z, y, e⟩ := push_lrows (p := p) (up := up) (l := l) (ks := ks) (s0 := s0) (s1 := s1) (s3 := s3) (st := st) hp L (S ++ [litemD (p ++ [j], k, up != l.isT)]) (some (.val (.int i))) (some (.val (.int j))) (fun j hj => hi j (List.mem_cons_of_mem _ hj)) (by simp; omega)
    refine ⟨z, y, ?_⟩
    rw [List.map_cons, hi']
    show (stepT (.nm 8) pushL (.int i) _ st).bind _ = _
    rw [one]
    show forL _ _ _ st = _
    rw [e, List.map_cons, hg, List.append_assoc]; rfl
theorem push_lall (p : List Nat) (up : Bool) (ks : List Kd) : ((downs 0 ks.length).map fun j => litemD ((kids p up 0 ks).getD j ([], .mk .row [], true))) = ((kids p up 0 ks).map litemD).reverse := by
  rw [← downs_range, List.map_reverse]
  congr 1
  have h := range_getD ([], Kd.mk .row [], true) (kids p up 0 ks)
  rw [kids_len] at h
  conv => rhs; rw [← h]
  rw [List.map_map]; rfl
/-- one node of the law's walk -/
noncomputable def turnL : SS := (qSeq (qPop (.tp [(.nm 4), (.nm 5), (.nm 6)]) 2) (qSeq (qM 1 kApp (sCons (sTup (sCons (sVar 4) (sCons (sVar 5) (sCons (sVar 6) sNil)))) sNil)) (qSeq (qSet 7 (sCall F__law_inner [] (sCons (sVar 5) sNil))) (qFor (sItA r1D (sCons (s1 lenD (sV (sVar 7))) sNil)) (.nm 8) pushL))))
theorem turn_lrows {p : List Nat} {k : Kd} {up : Bool} {S : List D} {F : List D} {s0 s3 s4 s5 s6 s7 s8 s9 : Option Sl} {st : Sto} (hp : p.length ≤ 1000) (hw : k.wf) (hS : S.length ≤ 50000) (hF : F.length ≤ 50000) :
    ∃ t4 t5 t6 t7 t8 t9, turnL [s0, some (.own F), some (.own (S ++ [litemD (p, k, up)])), s3, s4, s5, s6, s7, s8, s9] st =
      .ok (.nx [s0, some (.own (F ++ [litemD (p, k, up)])), some (.own (S ++ ((kids p (up != k.lab.isT) 0 k.ks).map litemD).reverse)), s3, t4, t5, t6, t7, t8, t9]) st := by
  obtain ⟨l, ks⟩ := k
  unfold Kd.wf at hw
  have hl : (Kd.Ds ks).length = ks.length := by rw [kds_map, List.length_map]
  have hf : l.fits (Kd.Ds ks).length := by rw [hl]; exact hw.1
  have hks : ks.length ≤ 6 := by
    have := hw.1
    cases l <;> simp only [Lab.fits] at this <;> omega
  have z1 : F.length < sizeLine := by rw [sizeLine_eq]; omega
  obtain ⟨z, y, e⟩ := push_lrows (p := p) (up := up) (l := l) (ks := ks) (s0 := s0) (s1 := some (.own (F ++ [litemD (p, .mk l ks, up)]))) (s3 := s3) (st := st) hp (downs 0 ks.length) S s8 s9
    (fun j hj => by
      rw [← downs_range] at hj
      simpa using hj) (by rw [← downs_range]; simp; omega)
  rw [push_lall, downs_up] at e
  have er := r1_ok (n := ks.length) (st := st) (by omega)
  refine ⟨some (.val (pathD p)), some (.val (l.D (Kd.Ds ks))), some (.val (.bl up)), some (.val (.lst (Kd.Ds ks))), z, y, ?_⟩
  have g3 : ∀ ρ : En, ρ[7]? = some (some (.val (.lst (Kd.Ds ks)))) → sItA r1D (sCons (s1 lenD (sV (sVar 7))) sNil) ρ st = .ok (.fix (rng 0 1 ks.length)) st := fun ρ hρ => by
    have : sCons (s1 lenD (sV (sVar 7))) sNil ρ st = .ok [.int ks.length] st := by simp [hρ, hl]
    rw [sItA_eq, this, itAK_ok, er]
  unfold turnL
  rw [seq_go (ρ1 := [s0, some (.own F), some (.own S), s3, some (.val (pathD p)), some (.val (l.D (Kd.Ds ks))), some (.val (.bl up)), s7, s8, s9]) (st1 := st) (by simp [litemD, kd_eq])]
  rw [seq_go (ρ1 := [s0, some (.own (F ++ [litemD (p, .mk l ks, up)])), some (.own S), s3, some (.val (pathD p)), some (.val (l.D (Kd.Ds ks))), some (.val (.bl up)), s7, s8, s9]) (st1 := st) (by simp [litemD, kd_eq, z1, smallLine])]
  rw [seq_go (ρ1 := [s0, some (.own (F ++ [litemD (p, .mk l ks, up)])), some (.own S), s3, some (.val (pathD p)), some (.val (l.D (Kd.Ds ks))), some (.val (.bl up)), some (.val (.lst (Kd.Ds ks))), s8, s9]) (st1 := st) (by simp [f_linner st hf])]
  exact for_go (g3 _ rfl) e
end KP
set_option Elab.async false
set_option linter.all false
set_option maxRecDepth 100000
set_option maxHeartbeats 1000000
set_option autoImplicit false
/-! PH: the plain law of k53: trees are plain data; the law's walk. -/
namespace KP
open PySem PySem.Spec PyProof.Rows L2 Ds KG
theorem pys_map : ∀ xs : List D, D.pys xs = xs.map D.py
  | [] => rfl
  | x :: xs => by unfold D.pys; rw [pys_map xs]; rfl
theorem plainAll_iff : ∀ xs : List PyData, PyData.plainAll xs = true ↔ ∀ x ∈ xs, x.plain = true
  | [] => by simp [PyData.plainAll]
  | x :: xs => by
    unfold PyData.plainAll
    rw [Bool.and_eq_true, plainAll_iff xs]
    simp
theorem plain_tup {xs : List D} (h : ∀ x ∈ xs, x.py.plain = true) : (D.tup xs).py.plain = true := by
  show PyData.plainAll (D.pys xs) = true
  rw [pys_map, plainAll_iff]
  intro y hy
  obtain ⟨x, hx, rfl⟩ := List.mem_map.mp hy
  exact h x hx
theorem plain_path (p : List Nat) : (pathD p).py.plain = true := plain_tup fun x hx => by
  obtain ⟨n, _, rfl⟩ := List.mem_map.mp hx
  rfl
theorem plain_lab {l : Lab} {ds : List Ds.D} (h : ∀ x ∈ ds, x.py.plain = true) : (l.D ds).py.plain = true := by
  cases l with
  | row =>
    exact plain_tup fun x hx => by
      simp only [List.mem_cons, List.not_mem_nil, or_false] at hx
      rcases hx with rfl | rfl
      · rfl
      · exact plain_tup h
  | table es =>
    exact plain_tup fun x hx => by
      simp only [List.mem_cons, List.not_mem_nil, or_false] at hx
      rcases hx with rfl | rfl
      · rfl
      · exact plain_tup fun y hy => by
          obtain ⟨p, _, rfl⟩ := List.mem_map.mp hy
          rfl
  | choice es =>
    exact plain_tup fun x hx => by
      simp only [List.mem_cons, List.not_mem_nil, or_false] at hx
      rcases hx with rfl | rfl
      · rfl
      · exact plain_tup fun y hy => by
          obtain ⟨i, hi⟩ := List.mem_iff_getElem?.mp hy
          rw [List.getElem?_zipWith] at hi
          cases h1 : es[i]? with
          | none => rw [h1] at hi; cases hi
          | some p =>
            cases h2 : ds[i]? with
            | none => rw [h1, h2] at hi; cases hi
            | some d =>
              rw [h1, h2] at hi
              cases hi
              exact plain_tup fun z hz => by
                simp only [List.mem_cons, List.not_mem_nil, or_false] at hz
                rcases hz with rfl | rfl | rfl
                · rfl
                · rfl
                · exact h _ (List.mem_of_getElem? h2)
  | list a b s =>
    exact plain_tup fun x hx => by
      simp only [List.mem_cons] at hx
      rcases hx with rfl | rfl | rfl | rfl | hx
      · rfl
      · rfl
      · rfl
      · rfl
      · exact h x hx
  | turned =>
    exact plain_tup fun x hx => by
      simp only [List.mem_cons] at hx
      rcases hx with rfl | hx
      · rfl
      · exact h x hx
mutual
theorem plain_kd : ∀ k : Kd, k.D.py.plain = true
  | .mk l ks => by
    rw [kd_eq]
    exact plain_lab (plain_kds ks)
theorem plain_kds : ∀ ks : List Kd, ∀ x ∈ Kd.Ds ks, x.py.plain = true
  | [], x, h => by unfold Kd.Ds at h; cases h
  | k :: ks, x, h => by
    unfold Kd.Ds at h
    rcases List.mem_cons.mp h with h | h
    · rw [h]; exact plain_kd k
    · exact plain_kds ks x h
end
theorem plain_litem (x : Item) : (litemD x).py.plain = true := plain_tup fun y hy => by
  simp only [List.mem_cons, List.not_mem_nil, or_false] at hy
  rcases hy with rfl | rfl | rfl
  · exact plain_path _
  · exact plain_kd _
  · rfl
theorem eqD_nil {xs : List D} {st : Sto} (h : ∀ x ∈ xs, x.py.plain = true) : eqD (.lst xs) (.lst []) st = .ok xs.isEmpty st := by
  have p : (D.lst xs).py.plain = true := by
    show PyData.plainAll (D.pys xs) = true
    rw [pys_map, plainAll_iff]
    intro y hy
    obtain ⟨x, hx, rfl⟩ := List.mem_map.mp hy
    exact h x hx
  unfold eqD
  rw [if_pos ⟨p, rfl, Nat.le_trans (Nat.min_le_right _ _) (by simp [D.py, D.pys, PyData.depth, PyData.depthAll])⟩]
  cases xs with
  | nil => rfl
  | cons x xs => rfl
noncomputable def bodyL : SS := (qSeq (qIf (c2 eqD (sOwn 2) (sV (sF (sLst sNil)))) qBreak qNil) turnL)
theorem loop_lwalk {s0 : Option Sl} {st : Sto} : ∀ (m : Nat) (ds : List D) (S : List Item) (F : List D) (s3 s4 s5 s6 s7 s8 s9 : Option Sl), sumSize S ≤ m → m < ds.length → Fit S → F.length + sumSize S ≤ 10000 →
    ∃ t3 t4 t5 t6 t7 t8 t9, forL (stepT (.nm 3) bodyL) ds [s0, some (.own F), some (.own (S.map litemD).reverse), s3, s4, s5, s6, s7, s8, s9] st = .ok (.nx [s0, some (.own (F ++ (S.flatMap walkI).map litemD)), some (.own []), t3, t4, t5, t6, t7, t8, t9]) st
  | m, [], S, F, s3, s4, s5, s6, s7, s8, s9, _, hd, _, _ => by simp at hd
  | m, d :: ds, [], F, s3, s4, s5, s6, s7, s8, s9, _, _, _, _ => by
    refine ⟨some (.val d), s4, s5, s6, s7, s8, s9, ?_⟩
    have e0 : eqD (.lst []) (.lst []) st = .ok true st := eqD_nil (fun x hx => by cases hx)
    have one : stepT (.nm 3) bodyL d [s0, some (.own F), some (.own []), s3, s4, s5, s6, s7, s8, s9] st = .ok (.bk [s0, some (.own F), some (.own []), some (.val d), s4, s5, s6, s7, s8, s9]) st := by
      simp [stepT_eq, bodyL, smallLine, e0]
    show (stepT (.nm 3) bodyL d [s0, some (.own F), some (.own []), s3, s4, s5, s6, s7, s8, s9] st).bind _ = _
    rw [one]
    simp
  | 0, d :: ds, x :: S, F, s3, s4, s5, s6, s7, s8, s9, hm, _, _, _ => by
    have := len_sum (x :: S)
    rw [List.length_cons] at this
    omega
  | m + 1, d :: ds, (p, k, up) :: S, F, s3, s4, s5, s6, s7, s8, s9, hm, hd, hf, hz => by
    obtain ⟨hf2, hs⟩ := hf.step (up != k.lab.isT)
    obtain ⟨hw, hl⟩ := hf _ List.mem_cons_self
    simp only at hw hl
    rw [List.length_cons] at hd
    have hS : S.length ≤ sumSize ((p, k, up) :: S) := by
      have := len_sum ((p, k, up) :: S)
      rw [List.length_cons] at this
      omega
    obtain ⟨t4, t5, t6, t7, t8, t9, e1⟩ := turn_lrows (p := p) (k := k) (up := up) (S := (S.map litemD).reverse) (F := F) (s0 := s0) (s3 := some (.val d)) (s4 := s4) (s5 := s5) (s6 := s6) (s7 := s7) (s8 := s8) (s9 := s9) (st := st) (by omega) hw (by rw [List.length_reverse, List.length_map]; omega) (by omega)
    obtain ⟨u3, u4, u5, u6, u7, u8, u9, e2⟩ := loop_lwalk (s0 := s0) (st := st) m ds (kids p (up != k.lab.isT) 0 k.ks ++ S) (F ++ [litemD (p, k, up)]) (some (.val d)) t4 t5 t6 t7 t8 t9 (by omega) (by omega) hf2 (by rw [List.length_append, List.length_singleton]; omega)
    refine ⟨u3, u4, u5, u6, u7, u8, u9, ?_⟩
    rw [List.map_append, List.reverse_append] at e2
    have e0 : eqD (.lst ((S.map litemD).reverse ++ [litemD (p, k, up)])) (.lst []) st = .ok false st := by
      rw [eqD_nil (fun x hx => ?_)]
      · simp
      · rcases List.mem_append.mp hx with hx | hx
        · obtain ⟨y, _, rfl⟩ := List.mem_map.mp (List.mem_reverse.mp hx)
          exact plain_litem y
        · rw [List.mem_singleton.mp hx]
          exact plain_litem _
    have one : stepT (.nm 3) bodyL d [s0, some (.own F), some (.own ((S.map litemD).reverse ++ [litemD (p, k, up)])), s3, s4, s5, s6, s7, s8, s9] st = .ok (.nx [s0, some (.own (F ++ [litemD (p, k, up)])), some (.own ((S.map litemD).reverse ++ ((kids p (up != k.lab.isT) 0 k.ks).map litemD).reverse)), some (.val d), t4, t5, t6, t7, t8, t9]) st := by
      have hb : (Tgt.nm 3).bind d [s0, some (.own F), some (.own ((S.map litemD).reverse ++ [litemD (p, k, up)])), s3, s4, s5, s6, s7, s8, s9] = some [s0, some (.own F), some (.own ((S.map litemD).reverse ++ [litemD (p, k, up)])), some (.val d), s4, s5, s6, s7, s8, s9] := by simp
      rw [stepT_eq, hb]
      show bodyL _ st = _
      unfold bodyL
      rw [seq_go (ρ1 := [s0, some (.own F), some (.own ((S.map litemD).reverse ++ [litemD (p, k, up)])), some (.val d), s4, s5, s6, s7, s8, s9]) (st1 := st) (by simp [smallLine, e0])]
      exact e1
    rw [List.map_cons, List.reverse_cons]
    show (stepT (.nm 3) bodyL d _ st).bind _ = _
    rw [one]
    show forL _ _ _ st = _
    rw [e2]
    congr 4
    rw [List.flatMap_append, List.flatMap_cons, walkI_eq]
    simp
/-- the law's walk -/
theorem f_lwalk {k : Kd} {st : Sto} (hw : k.wf) (hz : k.size < 400) : F__law_walk [k.D] st = .ok (.own ((walk [] true k).map litemD)) st := by
  have e4 := r1_ok (n := 400) (st := st) (by omega)
  obtain ⟨t3, t4, t5, t6, t7, t8, t9, e⟩ := loop_lwalk (s0 := some (.val k.D)) (st := st) k.size (rng 0 1 400) [([], k, true)] [] none none none none none none none (by simp [sumSize]) (by unfold rng; rw [List.length_map, List.length_range]; exact hz) (fun x hx => by
    simp only [List.mem_singleton] at hx
    subst hx
    exact ⟨hw, by simp only [List.length_nil]; omega⟩) (by simp [sumSize]; omega)
  have g3 : ∀ ρ : En, sItA r1D (sCons (sC (.int 400)) sNil) ρ st = .ok (.fix (rng 0 1 400)) st := fun ρ => by
    have : sCons (sC (.int 400)) sNil ρ st = .ok [.int ((400 : Nat) : Int)] st := by simp
    rw [sItA_eq, this, itAK_ok, e4]
  have b : B__law_walk [some (.val k.D), none, none, none, none, none, none, none, none, none] st = .ok (.rt (.own ((walk [] true k).map litemD))) st := by
    rw [show (List.map litemD [([], k, true)]).reverse = [litemD ([], k, true)] from rfl] at e
    unfold bodyL turnL pushL at e
    unfold B__law_walk
    rw [seq_go (ρ1 := [some (.val k.D), some (.own []), none, none, none, none, none, none, none, none]) (st1 := st) (by simp [smallLine])]
    rw [seq_go (ρ1 := [some (.val k.D), some (.own []), some (.own [litemD ([], k, true)]), none, none, none, none, none, none, none]) (st1 := st) (by simp [smallLine, litemD, pathD])]
    rw [seq_go (for_go (g3 _) e)]
    simp [walkI]
  unfold F__law_walk
  simp [b]
end KP
set_option Elab.async false
set_option linter.all false
set_option maxRecDepth 100000
set_option maxHeartbeats 1000000
set_option autoImplicit false
/-! PI: the plain law of k53: good words, good names. -/
namespace KP
open PySem PySem.Spec PyProof.Rows L2 Ds KG
theorem in_one {c : Nat} {z : Str} {st : Sto} : inB id (.str ⟨#[c]⟩) (.str z) st = .ok (decide (c ∈ z.cps.toList)) st := rfl
theorem itD_str {z : Str} {st : Sto} : itD (.str z) st = .ok (.fix (chs z)) st := rfl
theorem lenD_str {z : Str} {st : Sto} (h : z.length ≤ 1000) : lenD (.str z) st = .ok (.int z.length) st := by
  show (if z.length ≤ sizeLine then Out.ok (D.int z.length) st else .bad) = _
  rw [if_pos (smallLine h)]
theorem all_true {xs : List D} {st : Sto} : allD (.lst (xs.map fun _ => D.bl true)) st = .ok (.bl true) st := by
  have e : (xs.map fun _ => D.bl true) = (xs.map fun _ => true).map D.bl := by rw [List.map_map]; rfl
  rw [e]
  show (match blsOf ((xs.map fun _ => true).map D.bl) with | some bs => Out.ok (D.bl (bs.all id)) st | none => .bad) = _
  rw [blsOf_map]
  simp
theorem signs_ok {z t : Str} {n : Option Sl} {st : Sto} (hl : z.length ≤ 1000) (h : ∀ c ∈ z.cps.toList, c ∈ t.cps.toList) :
    lcL (stepC (.nm 1) bYes (sB (c2 (inB id) (sVar 1) (sV (sC (.str t))))) [n, none]) (chs z) [] st = .ok ((chs z).map fun _ => .bl true) st := by
  rw [lcL_map (g := fun _ => .bl true) _ _ (fun d hd => ?_) (smallLine (by
    unfold chs
    rw [List.length_nil, List.length_map]
    have e : z.cps.toList.length = z.length := Array.length_toList
    omega))]
  · rfl
  · unfold chs at hd
    obtain ⟨c, hc, rfl⟩ := List.mem_map.mp hd
    have := h c hc
    simp [stepC_eq, in_one, this]
theorem f_word {z : Str} {st : Sto} (hl : z.length ≤ 8) (h : ∀ c ∈ z.cps.toList, c ∈ (Str.ofString "abcdefgh").cps.toList) : F_good_word [.str z] st = .ok (.val (.bl true)) st := by
  unfold F_good_word B_good_word
  have h8 : ¬ ((8 : Int) < (z.length : Int)) := by omega
  have e := signs_ok (z := z) (t := Str.ofString "abcdefgh") (n := some (.val (.str z))) (st := st) (by omega) h
  simp [lenD_str (show z.length ≤ 1000 by omega), h8, itD_str, e, all_true]
theorem idx_str0 {z : Str} {c : Nat} {r : List Nat} {st : Sto} (h : z.cps.toList = c :: r) (hl : z.length ≤ 1000) : idxD (.str z) (.int 0) st = .ok (.str ⟨#[c]⟩) st := by
  have e : atI z.cps.toList (0 : Int) = some c := by
    rw [h]
    unfold atI ixN
    simp
  show (if z.length ≤ sizeLine then (match atI z.cps.toList (0 : Int) with | some c => Out.ok (D.str ⟨#[c]⟩) st | none => .bad) else .bad) = _
  rw [if_pos (smallLine hl), e]
abbrev startsS : Str := "abcdefghijklmnopqrstuvwxyz"
abbrev signsS : Str := "abcdefghijklmnopqrstuvwxyz0123456789"
/-- a good name -/
def GoodName (z : Str) : Prop := z.length ≤ 8 ∧ (∃ c r, z.cps.toList = c :: r ∧ c ∈ startsS.cps.toList) ∧ ∀ c ∈ z.cps.toList, c ∈ signsS.cps.toList
def GoodWord (z : Str) : Prop := z.length ≤ 8 ∧ ∀ c ∈ z.cps.toList, c ∈ (Str.ofString "abcdefgh").cps.toList
theorem f_word' {z : Str} {st : Sto} (h : GoodWord z) : F_good_word [.str z] st = .ok (.val (.bl true)) st := f_word h.1 h.2
theorem f_name {z : Str} {st : Sto} (h : GoodName z) : F_good_name [.str z] st = .ok (.val (.bl true)) st := by
  obtain ⟨h1, ⟨c, r, h2, h3⟩, h4⟩ := h
  unfold F_good_name B_good_name
  have hl : z.cps.toList.length = z.length := Array.length_toList
  rw [h2, List.length_cons] at hl
  have a1 : ¬ ((z.length : Int) < 1) := by omega
  have a2 : ¬ ((8 : Int) < (z.length : Int)) := by omega
  have e := signs_ok (z := z) (t := signsS) (n := some (.val (.str z))) (st := st) (by omega) h4
  simp [lenD_str (show z.length ≤ 1000 by omega), a1, a2, itD_str, idx_str0 h2 (show z.length ≤ 1000 by omega), in_one, h3, e, all_true]
end KP
set_option Elab.async false
set_option linter.all false
set_option maxRecDepth 100000
set_option maxHeartbeats 1000000
set_option autoImplicit false
/-! QA: general: what an end satisfies, loops by an invariant, paths compared. -/
namespace KP
open PySem PySem.Spec PyProof.Rows L2 Ds KG
/-- it ends well, and so -/
def sat {α : Type} (o : Out α) (Q : α → Sto → Prop) : Prop := match o with
  | .ok a st => Q a st
  | _ => False
@[simp] theorem sat_ok {α : Type} {a : α} {st : Sto} {Q : α → Sto → Prop} : sat (.ok a st) Q = Q a st := rfl
theorem sat_of {α : Type} {o : Out α} {a : α} {st : Sto} {Q : α → Sto → Prop} (h : o = .ok a st) (q : Q a st) : sat o Q := by subst h; exact q
theorem sat_out {α : Type} {o : Out α} {Q : α → Sto → Prop} (h : sat o Q) : ∃ a st, o = .ok a st ∧ Q a st := by
  cases o with
  | ok a st => exact ⟨a, st, rfl, h⟩
  | err => exact h.elim
  | bad => exact h.elim
theorem sat_mono {α : Type} {o : Out α} {P Q : α → Sto → Prop} (h : sat o P) (k : ∀ a st, P a st → Q a st) : sat o Q := by
  cases o with
  | ok a st => exact k _ _ h
  | err => exact h.elim
  | bad => exact h.elim
/-- it goes on, and so -/
def nxt (Q : En → Sto → Prop) (fl : Fl) (st : Sto) : Prop := match fl with
  | .nx ρ => Q ρ st
  | .ct ρ => Q ρ st
  | _ => False
@[simp] theorem nxt_nx {Q : En → Sto → Prop} {ρ : En} {st : Sto} : nxt Q (.nx ρ) st = Q ρ st := rfl
@[simp] theorem nxt_ct {Q : En → Sto → Prop} {ρ : En} {st : Sto} : nxt Q (.ct ρ) st = Q ρ st := rfl
/-- a loop by its invariant -/
theorem for_inv {step : D → SS} (I : Nat → En → Sto → Prop) : ∀ (ds : List D) (b : Nat) (ρ : En) (st : Sto), I b ρ st →
    (∀ i d ρ st, ds[i]? = some d → I (b + i) ρ st → sat (step d ρ st) (nxt (I (b + i + 1)))) → ∃ ρ' st', forL step ds ρ st = .ok (.nx ρ') st' ∧ I (b + ds.length) ρ' st'
  | [], b, ρ, st, h, _ => ⟨ρ, st, rfl, h⟩
  | d :: ds, b, ρ, st, h, k => by
    obtain ⟨fl, st1, e, q⟩ := sat_out (k 0 d ρ st rfl h)
    have go : ∀ ρ1, I (b + 1) ρ1 st1 → ∃ ρ' st', forL step ds ρ1 st1 = .ok (.nx ρ') st' ∧ I (b + (d :: ds).length) ρ' st' := fun ρ1 q => by
      have := for_inv I ds (b + 1) ρ1 st1 q (fun i d' ρ st hi h' => by
        have := k (i + 1) d' ρ st (by simpa using hi) (by rw [show b + (i + 1) = b + 1 + i from by omega]; exact h')
        rw [show b + 1 + i + 1 = b + (i + 1) + 1 from by omega]
        exact this)
      rw [List.length_cons, show b + (ds.length + 1) = b + 1 + ds.length from by omega]
      exact this
    show ∃ ρ' st', (step d ρ st).bind _ = _ ∧ _
    rw [e]
    cases fl with
    | nx ρ1 => exact go ρ1 q
    | ct ρ1 => exact go ρ1 q
    | rt r => exact q.elim
    | bk ρ1 => exact q.elim
/-- .. with one invariant -/
theorem for_inv1 {step : D → SS} (I : En → Sto → Prop) (ds : List D) (ρ : En) (st : Sto) (h : I ρ st) (k : ∀ d ρ st, d ∈ ds → I ρ st → sat (step d ρ st) (nxt I)) : ∃ ρ' st', forL step ds ρ st = .ok (.nx ρ') st' ∧ I ρ' st' :=
  for_inv (fun _ => I) ds 0 ρ st h fun i d ρ st hi h => k d ρ st (List.mem_of_getElem? hi) h
/-- a comprehension -/
theorem lcL_filter {step : D → Sto → Out (Option D)} {p : D → Option D} {st : Sto} : ∀ (ds acc : List D), (∀ d ∈ ds, step d st = .ok (p d) st) → acc.length + ds.length ≤ sizeLine → lcL step ds acc st = .ok (acc ++ ds.filterMap p) st
  | [], acc, _, _ => by simp [lcL]
  | d :: ds, acc, h, hz => by
    rw [List.length_cons] at hz
    have ih := fun acc hz => lcL_filter (st := st) ds acc (fun e he => h e (List.mem_cons_of_mem _ he)) hz
    unfold lcL
    rw [h d List.mem_cons_self, Out.bind_ok]
    cases e : p d with
    | none =>
      show lcL step ds acc st = _
      rw [ih acc (by omega), List.filterMap_cons, e]
    | some y =>
      show (if _ then _ else _) = _
      rw [if_pos (by omega), ih (acc ++ [y]) (by simp; omega), List.filterMap_cons, e]
      simp
/-! ### paths compared -/
theorem eqv_ints : ∀ p q : List Nat, PyData.eqvAll (D.pys (p.map fun (n : Nat) => D.int n)) (D.pys (q.map fun (n : Nat) => D.int n)) = decide (p = q)
  | [], [] => rfl
  | [], _ :: _ => rfl
  | _ :: _, [] => rfl
  | a :: p, b :: q => by
    have := eqv_ints p q
    simp only [List.map_cons, D.pys, PyData.eqvAll, this, D.py, PyData.eqv]
    by_cases h : a = b
    · subst h; simp
    · have h2 : ¬ ((a : Int) = (b : Int)) := by omega
      simp [h, h2]
theorem depth_ints : ∀ p : List Nat, PyData.depthAll (D.pys (p.map fun (n : Nat) => D.int n)) = 0
  | [] => rfl
  | a :: p => by
    have := depth_ints p
    simp only [List.map_cons, D.pys, PyData.depthAll, this, D.py, PyData.depth]
    rfl
theorem depth_path (p : List Nat) : (pathD p).py.depth ≤ 100 := by
  unfold pathD
  show PyData.depth (.tuple (D.pys _)) ≤ 100
  unfold PyData.depth
  rw [depth_ints]
  omega
theorem eqD_path {p q : List Nat} {st : Sto} : eqD (pathD p) (pathD q) st = .ok (decide (p = q)) st := by
  unfold eqD
  rw [if_pos ⟨plain_path p, plain_path q, Nat.le_trans (Nat.min_le_left _ _) (depth_path p)⟩]
  show Out.ok (PyData.eqvAll _ _) st = _
  rw [eqv_ints]
theorem neD_path {p q : List Nat} {st : Sto} : neD (pathD p) (pathD q) st = .ok (!decide (p = q)) st := by
  unfold neD
  rw [if_pos ⟨plain_path p, plain_path q, Nat.le_trans (Nat.min_le_left _ _) (depth_path p)⟩]
  show Out.ok (!(PyData.eqvAll _ _)) st = _
  rw [eqv_ints]
theorem alike_ints : ∀ p q : List Nat, PySem.W.alikeAll (D.pys (p.map fun (n : Nat) => D.int n)) (D.pys (q.map fun (n : Nat) => D.int n)) = true
  | [], [] => rfl
  | [], _ :: _ => rfl
  | _ :: _, [] => rfl
  | a :: p, b :: q => by
    have := alike_ints p q
    simp only [List.map_cons, D.pys, PySem.W.alikeAll, this, D.py, PySem.W.alike, Bool.and_self]
/-- the order of paths -/
def pLt : List Nat → List Nat → Bool
  | [], [] => false
  | [], _ :: _ => true
  | _ :: _, [] => false
  | a :: p, b :: q => decide (a < b) || (decide (a = b) && pLt p q)
theorem lt_ints : ∀ p q : List Nat, PyProof.Rows.lexLt PyProof.Rows.itemOrd (PySem.W.keyToksAll (D.pys (p.map fun (n : Nat) => D.int n))) (PySem.W.keyToksAll (D.pys (q.map fun (n : Nat) => D.int n))) = pLt p q
  | [], [] => by decide +kernel
  | [], b :: q => by
    simp only [List.map_cons, List.map_nil, D.pys, PySem.W.keyToksAll, pLt]
    refine (PySem.W.lex_atom (by simp) _ _).trans ?_
    decide +kernel
  | a :: p, [] => by
    simp only [List.map_cons, List.map_nil, D.pys, PySem.W.keyToksAll, pLt]
    refine (PySem.W.lex_atom (by simp) _ _).trans ?_
    decide +kernel
  | a :: p, b :: q => by
    have ih := lt_ints p q
    simp only [List.map_cons, D.pys, pLt]
    by_cases h : a = b
    · subst h
      rw [PySem.W.dataLt_all_yes (by rfl) (by simp [D.py, PyData.eqv])]
      rw [ih]
      simp
    · rw [PySem.W.dataLt_all_no (by rfl) (by simp [D.py, PyData.eqv]; omega)]
      simp only [D.py]
      rw [PySem.W.dataLt_int]
      simp [h]
theorem ord_path {p q : List Nat} {n sw : Bool} {st : Sto} : ordD n sw (pathD p) (pathD q) st = .ok (n != (if sw then pLt q p else pLt p q)) st := by
  have e : ∀ p q : List Nat, PySem.W.dataLt (pathD p).py (pathD q).py = pLt p q := fun p q => by
    show PySem.W.dataLt (.tuple _) (.tuple _) = _
    rw [PySem.W.dataLt_tuple, lt_ints]
  have al : PySem.W.alike (pathD p).py (pathD q).py = true := by
    show PySem.W.alike (.tuple _) (.tuple _) = true
    rw [PySem.W.alike, alike_ints]
  show (if _ then _ else _) = _
  rw [if_pos ⟨plain_path p, plain_path q, al, rfl, Nat.le_trans (Nat.min_le_left _ _) (depth_path p)⟩, e, e]
end KP
set_option Elab.async false
set_option linter.all false
set_option maxRecDepth 100000
set_option maxHeartbeats 1000000
set_option autoImplicit false
/-! QB: the plain law of k53: good nodes. -/
namespace KP
open PySem PySem.Spec PyProof.Rows L2 Ds KG
def Lab.names : Lab → List Str
  | .table es => es.map (·.1)
  | .choice es => es.map (·.1)
  | _ => []
def GoodEs (es : List (Str × Str)) : Prop := es ≠ [] ∧ (∀ p ∈ es, GoodName p.1 ∧ GoodWord p.2) ∧ (es.map (·.1)).Nodup
def Lab.good : Lab → Prop
  | .table es => GoodEs es
  | .choice es => GoodEs es
  | .list a b s => GoodWord a ∧ GoodWord b ∧ (s = "first" ∨ s = "last")
  | _ => True
theorem f_within {xs : List D} {a b : Int} {st : Sto} : F_tuple_within [.tup xs, .int a, .int b] st = .ok (.val (.bl (decide (a ≤ xs.length) && decide ((xs.length : Int) ≤ b)))) st := by
  unfold F_tuple_within B_tuple_within
  by_cases h : (xs.length : Int) < a
  · simp [h, Int.not_le.mpr h]
  · by_cases h2 : (xs.length : Int) ≤ b
    · simp [h, Int.not_lt.mp h, h2, Int.not_lt.mpr h2]
    · simp [h, Int.not_lt.mp h, h2, Int.not_le.mp h2]
theorem onceS_nodup {xs : List Str} (h : xs.Nodup) : onceS xs = xs := by
  suffices k : ∀ (ys acc : List Str), (acc ++ ys).Nodup → ys.foldl metS acc = acc ++ ys by simpa [onceS] using k xs [] (by simpa using h)
  intro ys
  induction ys with
  | nil => intro acc _; simp
  | cons y ys ih =>
    intro acc hn
    have hy : y ∉ acc := fun hm => by
      have := (List.nodup_append.mp hn).2.2 y hm y List.mem_cons_self
      exact this rfl
    have e : metS acc y = acc ++ [y] := by
      unfold metS
      rw [if_neg]
      intro z
      obtain ⟨x, hx, e⟩ := List.any_eq_true.mp z
      exact hy (by rw [← beq_iff_eq.mp e]; exact hx)
    rw [List.foldl_cons, e, ih (acc ++ [y]) (by rw [List.append_assoc]; exact hn), List.append_assoc]
    rfl
def first : D → D
  | .tup (x :: _) => x
  | d => d
theorem strsOf_map : ∀ xs : List Str, strsOf (xs.map D.str) = some xs
  | [] => rfl
  | x :: xs => by
    show (strsOf (xs.map D.str)).map (x :: ·) = _
    rw [strsOf_map xs]; rfl
/-- the entries of a table or a choice -/
theorem f_entries {xs : List D} {es : List (Str × Str)} {width most : Nat} {st : Sto} (hx : ∀ x ∈ xs, ∃ p ∈ es, ∃ r, x = .tup (.str p.1 :: .str p.2 :: r) ∧ r.length + 2 = width) (hf : xs.map first = es.map fun p => .str p.1)
    (hg : GoodEs es) (h2 : es.length ≤ most) (hm : most ≤ 100) : F_good_entries [.tup xs, .int most, .int width] st = .ok (.val (.bl true)) st := by
  obtain ⟨g1, g2, g3⟩ := hg
  have hl : xs.length = es.length := by simpa using congrArg List.length hf
  have h1 : 1 ≤ es.length := by
    cases es with
    | nil => exact absurd rfl g1
    | cons => simp
  have w1 : F_tuple_within [.tup xs, .int 1, .int most] st = .ok (.val (.bl true)) st := by
    rw [f_within, hl]
    simp [h2]
    omega
  unfold F_good_entries B_good_entries
  obtain ⟨ρ', st', e, hρ, hst⟩ := for_inv1 (step := stepT (.nm 3) (qSeq (qIf (bNot (sTst (sCall F_tuple_within [] (sCons (sVar 3) (sCons (sVar 2) (sCons (sVar 2) sNil)))))) (qRet (sC (.bl false))) qNil) (qIf (bOr (bNot (sTst (sCall F_good_name [] (sCons (sIx (sVar 3) (sC (.int 0))) sNil)))) (bNot (sTst (sCall F_good_word [] (sCons (sIx (sVar 3) (sC (.int 1))) sNil))))) (qRet (sC (.bl false))) qNil)))
    (fun ρ st' => (∃ x, ρ = [some (.val (.tup xs)), some (.val (.int most)), some (.val (.int width)), x, none]) ∧ st' = st) xs [some (.val (.tup xs)), some (.val (.int most)), some (.val (.int width)), none, none] st ⟨⟨none, rfl⟩, rfl⟩ (fun d ρ st' hd ⟨⟨x, hρ⟩, hst⟩ => by
      subst hρ hst
      obtain ⟨p, hp, r, rfl, hr⟩ := hx d hd
      obtain ⟨n1, n2⟩ := g2 p hp
      have w2 : F_tuple_within [.tup (.str p.1 :: .str p.2 :: r), .int width, .int width] st' = .ok (.val (.bl true)) st' := by
        rw [f_within]
        simp
        omega
      simp [stepT_eq, w2, f_name n1, f_word' n2])
  obtain ⟨x, rfl⟩ := hρ
  subst hst
  have e2 : ∀ (n a b : Option Sl), lcL (stepC (.nm 3) bYes (sIx (sVar 3) (sC (.int 0))) [n, a, b, none, none]) xs [] st' = .ok (es.map fun p => .str p.1) st' := fun n a b => by
    rw [lcL_map (g := first) _ _ (fun d hd => ?_) (by rw [hl]; exact smallLine (by simp; omega))]
    · rw [hf]; rfl
    · obtain ⟨p, hp, r, rfl, hr⟩ := hx d hd
      simp [stepC_eq, first]
  have e3 : lenSetD (.lst (es.map fun p => D.str p.1)) st' = .ok (.int es.length) st' := by
    have : (es.map fun p => D.str p.1) = (es.map (·.1)).map D.str := by rw [List.map_map]; rfl
    rw [this]
    show (match strsOf _ with | some xs => if xs.length < 4000 then Out.ok (D.int (onceS xs).length) st' else .bad | none => .bad) = _
    rw [strsOf_map]
    show (if _ then _ else _) = _
    rw [if_pos (by rw [List.length_map]; omega), onceS_nodup g3, List.length_map]
  simp [w1, e, e2, e3, eqD_int]
/-- a good node -/
theorem f_node {l : Lab} {ds : List Ds.D} {st : Sto} (h : l.fits ds.length) (hg : l.good) : F_good_node [l.D ds, .bl false] st = .ok (.val (.bl true)) st := by
  unfold F_good_node B_good_node
  cases l with
  | row =>
    have h6 : ds.length ≤ 6 := h
    have w0 : F_tuple_within [.tup ds, .int 0, .int 6] st = .ok (.val (.bl true)) st := by rw [f_within]; simp; omega
    simp [Lab.D, eqD_str, neD_int, ofString_inj, f_within, w0]
  | table es =>
    obtain ⟨h1, h2⟩ := h
    have w0 : F_good_entries [.tup (es.map pairD), .int 10, .int 2] st = .ok (.val (.bl true)) st := f_entries (width := 2) (most := 10) (fun x hx => by
      obtain ⟨p, hp, rfl⟩ := List.mem_map.mp hx
      exact ⟨p, hp, [], rfl, rfl⟩) (by rw [List.map_map]; rfl) hg h2 (by omega)
    simp [Lab.D, eqD_str, neD_int, ofString_inj, f_within, w0]
  | choice es =>
    obtain ⟨h1, h2⟩ := h
    have w0 : F_good_entries [.tup (List.zipWith tripD es ds), .int 6, .int 3] st = .ok (.val (.bl true)) st := f_entries (es := es) (width := 3) (most := 6) (fun x hx => by
      obtain ⟨i, hi⟩ := List.mem_iff_getElem?.mp hx
      rw [List.getElem?_zipWith] at hi
      cases e1 : es[i]? with
      | none => rw [e1] at hi; cases hi
      | some p =>
        cases e2 : ds[i]? with
        | none => rw [e1, e2] at hi; cases hi
        | some d =>
          rw [e1, e2] at hi
          cases hi
          exact ⟨p, List.mem_of_getElem? e1, [d], rfl, rfl⟩) (by
        refine List.ext_getElem? fun i => ?_
        rw [List.getElem?_map, List.getElem?_map, List.getElem?_zipWith]
        cases e1 : es[i]? with
        | none => rfl
        | some p =>
          have : i < ds.length := by rw [h1]; exact (List.getElem?_eq_some_iff.mp e1).1
          rw [List.getElem?_eq_getElem this]
          rfl) hg (by omega) (by omega)
    simp [Lab.D, eqD_str, neD_int, ofString_inj, f_within, w0]
  | list a b s =>
    have h1 : ds.length = 1 := h
    obtain ⟨d, rfl⟩ := List.length_eq_one_iff.mp h1
    obtain ⟨g1, g2, g3⟩ := hg
    rcases g3 with rfl | rfl <;> simp [Lab.D, eqD_str, neD_int, ofString_inj, f_within, f_word' g1, f_word' g2]
  | turned =>
    have h1 : ds.length = 1 := h
    obtain ⟨d, rfl⟩ := List.length_eq_one_iff.mp h1
    simp [Lab.D, eqD_str, neD_int, ofString_inj, f_within]
end KP
set_option Elab.async false
set_option linter.all false
set_option maxRecDepth 100000
set_option maxHeartbeats 1000000
set_option autoImplicit false
/-! QC: small rules of ends; the plain law of k53: kind_sizes. -/
namespace KP
open PySem PySem.Spec PyProof.Rows L2 Ds KG
/-- it goes to the next statement, and so -/
def nx (Q : En → Sto → Prop) (fl : Fl) (st : Sto) : Prop := match fl with
  | .nx ρ => Q ρ st
  | _ => False
@[simp] theorem nx_nx {Q : En → Sto → Prop} {ρ : En} {st : Sto} : nx Q (.nx ρ) st = Q ρ st := rfl
theorem seq_sat {q r : SS} {ρ : En} {st : Sto} {P : En → Sto → Prop} {Q : Fl → Sto → Prop} (h : sat (q ρ st) (nx P)) (k : ∀ ρ1 st1, P ρ1 st1 → sat (r ρ1 st1) Q) : sat (qSeq q r ρ st) Q := by
  obtain ⟨fl, st1, e, hq⟩ := sat_out h
  rw [qSeq_eq, e]
  cases fl with
  | nx ρ1 => exact k ρ1 st1 hq
  | rt r => exact hq.elim
  | bk r => exact hq.elim
  | ct r => exact hq.elim
theorem for_sat {fi : SI} {t : Tgt} {q : SS} {ρ : En} {st st1 : Sto} {ds : List D} (I : Nat → En → Sto → Prop) {P : En → Sto → Prop} (h : fi ρ st = .ok (.fix ds) st1) (h0 : I 0 ρ st1)
    (k : ∀ i d ρ st, ds[i]? = some d → I i ρ st → sat (stepT t q d ρ st) (nxt (I (i + 1)))) (e : ∀ ρ st, I ds.length ρ st → P ρ st) : sat (qFor fi t q ρ st) (nx P) := by
  obtain ⟨ρ', st', e1, e2⟩ := for_inv I ds 0 ρ st1 h0 (fun i d ρ st hi h => by
    rw [Nat.zero_add] at h ⊢
    exact k i d ρ st hi h)
  rw [Nat.zero_add] at e2
  rw [qFor_eq, h, forK_ok, forR_fix, e1]
  exact e _ _ e2
theorem stepT_nm {q : SS} {i : Nat} {d : D} {ρ : En} {st : Sto} (h : i < ρ.length) : stepT (.nm i) q d ρ st = q (ρ.set i (some (.val d))) st := by
  rw [stepT_eq, bind_nm, if_pos h]
theorem r1_nat {n : Nat} {fl : SL} {ρ : En} {st : Sto} (h : fl ρ st = .ok [.int (n : Int)] st) (hn : n ≤ 1000000) : sItA r1D fl ρ st = .ok (.fix (rng 0 1 n)) st := by
  rw [sItA_eq, h, itAK_ok, r1_ok hn]
theorem r3_nat {n : Nat} {fl : SL} {ρ : En} {st : Sto} (h : fl ρ st = .ok [.int ((n : Int) - 1), .int (-1), .int (-1)] st) (hn : n ≤ 100000) : sItA r3D fl ρ st = .ok (.fix ((List.range n).reverse.map fun (i : Nat) => D.int i)) st := by
  rw [sItA_eq, h, itAK_ok, r3_down hn]
theorem rng_at {n i : Nat} {d : D} (h : (rng 0 1 n)[i]? = some d) : i < n ∧ d = .int i := by
  rw [rng_get] at h
  by_cases hi : i < n
  · rw [if_pos hi] at h
    cases h
    exact ⟨hi, by congr 1; omega⟩
  · rw [if_neg hi] at h; cases h
theorem down_at {n i : Nat} {d : D} (h : ((List.range n).reverse.map fun (i : Nat) => D.int i)[i]? = some d) : i < n ∧ d = .int ((n - 1 - i : Nat) : Int) := by
  by_cases hi : i < n
  · rw [List.getElem?_map, List.getElem?_reverse (by rw [List.length_range]; exact hi), List.length_range, List.getElem?_range (by omega)] at h
    cases h
    exact ⟨hi, rfl⟩
  · rw [List.getElem?_eq_none (by rw [List.length_map, List.length_reverse, List.length_range]; omega)] at h; cases h
/-! ### kind_sizes -/
def Lab.isL : Lab → Bool
  | .list _ _ _ => true
  | _ => false
def lenSum (ws : List Str) : Nat := (ws.map Str.length).sum
abbrev SItem := List Nat × Nat × Ds.D
def sitemD (x : SItem) : D := .tup [pathD x.1, .int x.2.1, x.2.2]
def kidsN (p : List Nat) (n : Nat) : Nat → List Ds.D → List SItem
  | _, [] => []
  | i, k :: ks => (p ++ [i], n, k) :: kidsN p n (i + 1) ks
theorem kidsN_len (p : List Nat) (n : Nat) : ∀ (i : Nat) (ks : List Ds.D), (kidsN p n i ks).length = ks.length
  | _, [] => rfl
  | i, k :: ks => by unfold kidsN; rw [List.length_cons, kidsN_len p n (i + 1) ks]; rfl
theorem kidsN_get (p : List Nat) (n : Nat) : ∀ (i : Nat) (ks : List Ds.D) (j : Nat) (k : Ds.D), ks[j]? = some k → (kidsN p n i ks)[j]? = some (p ++ [i + j], n, k)
  | _, [], j, k, h => by simp at h
  | i, k' :: ks, 0, k, h => by
    simp only [List.getElem?_cons_zero, Option.some.injEq] at h
    subst h; rfl
  | i, k' :: ks, j + 1, k, h => by
    simp only [List.getElem?_cons_succ] at h
    unfold kidsN
    rw [List.getElem?_cons_succ, kidsN_get p n (i + 1) ks j k h, show i + 1 + j = i + (j + 1) from by omega]
/-- the slots of kind_sizes -/
def KS (a t d : Nat) (R : List D) (ρ : En) : Prop := ρ.length = 12 ∧ ρ[1]? = some (some (.val (.bl false))) ∧ ρ[2]? = some (some (.val (.int a))) ∧ ρ[3]? = some (some (.val (.int t))) ∧ ρ[4]? = some (some (.val (.int d))) ∧ ρ[5]? = some (some (.own R))
noncomputable def wordK : SS := (qSet 3 (s2 addD (sVar 3) (s1 lenD (sV (sVar 9)))))
noncomputable def pushK : SS := (qM 5 kApp (sCons (sTup (sCons (s2 addD (sVar 6) (sTup (sCons (sVar 11) sNil))) (sCons (sVar 7) (sCons (sIx (sVar 10) (sVar 11)) sNil)))) sNil))
noncomputable def bodyK : SS := (qSeq (qPop (.tp [(.nm 6), (.nm 7), (.nm 8)]) 5) (qSeq (qIf (bNot (sTst (sCall F_good_node [] (sCons (sVar 8) (sCons (sVar 1) sNil))))) (qRaise "BadKind" ["path"] (sCons (sVar 6) sNil)) qNil) (qSeq (qSet 2 (s2 addD (sVar 2) (sC (.int 1)))) (qSeq (qFor (sIt (sCall F_own_words [] (sCons (sVar 8) sNil))) (.nm 9) wordK) (qSeq (qIf (c2 eqD (sIx (sVar 8) (sC (.int 0))) (sV (sC (.str "list")))) (qSeq (qSet 7 (s2 addD (sVar 7) (sC (.int 1)))) (qIf (c2 (ordD false true) (sVar 7) (sV (sVar 4))) (qSet 4 (sVar 7)) qNil)) qNil) (qSeq (qSet 10 (sCall F_inner_kinds [] (sCons (sVar 8) sNil))) (qFor (sItA r3D (sCons (s2 subD (s1 lenD (sV (sVar 10))) (sC (.int 1))) (sCons (s1 negD (sC (.int 1))) (sCons (s1 negD (sC (.int 1))) sNil)))) (.nm 11) pushK)))))))
theorem sort_list (l : Lab) : decide (l.sort = ("list" : Str)) = l.isL := by
  cases l <;> simp [Lab.sort, Lab.isL, ofString_inj]
theorem good_words {l : Lab} (h : l.good) : ∀ w ∈ l.words, GoodWord w := by
  cases l with
  | row => intro w hw; cases hw
  | turned => intro w hw; cases hw
  | table es =>
    intro w hw
    obtain ⟨p, hp, rfl⟩ := List.mem_map.mp hw
    exact (h.2.1 p hp).2
  | choice es =>
    intro w hw
    obtain ⟨p, hp, rfl⟩ := List.mem_map.mp hw
    exact (h.2.1 p hp).2
  | list a b s =>
    intro w hw
    simp only [Lab.words, List.mem_cons, List.not_mem_nil, or_false] at hw
    rcases hw with rfl | rfl
    · exact h.1
    · exact h.2.1
theorem turn_sizes {l : Lab} {ds : List Ds.D} {p : List Nat} {n a t d : Nat} {R : List D} {ρ : En} {st : Sto} (hf : l.fits ds.length) (hg : l.good) (hp : p.length ≤ 1000) (hR : R.length ≤ 50000) (hk : KS a t d (R ++ [sitemD (p, n, l.D ds)]) ρ) :
    sat (bodyK ρ st) (nx fun ρ' st' => st' = st ∧ KS (a + 1) (t + lenSum l.words) (if l.isL then max d (n + 1) else d) (R ++ ((kidsN p (n + l.isL.toNat) 0 ds).map sitemD).reverse) ρ') := by
  obtain ⟨hl, h1, h2, h3, h4, h5⟩ := hk
  have hf' : l.fits ds.length := hf
  have hks : ds.length ≤ 6 := by cases l <;> simp only [Lab.fits] at hf <;> omega
  unfold bodyK
  refine seq_sat (P := fun ρ' st' => st' = st ∧ KS a t d R ρ' ∧ ρ'[6]? = some (some (.val (pathD p))) ∧ ρ'[7]? = some (some (.val (.int n))) ∧ ρ'[8]? = some (some (.val (l.D ds)))) ?_ ?_
  · simp [-getElem?_pos, KS, hl, h1, h2, h3, h4, h5, sitemD, hl]
  rintro ρ st' ⟨rfl, ⟨hl, h1, h2, h3, h4, h5⟩, h6, h7, h8⟩
  refine seq_sat (P := fun ρ' st => st = st' ∧ ρ' = ρ) ?_ ?_
  · simp [-getElem?_pos, KS, hl, h1, h2, h3, h4, h5, h6, h7, h8, h8, h1, f_node hf' hg]
  rintro ρ' st'' ⟨rfl, rfl⟩
  refine seq_sat (P := fun ρ' st => st = st'' ∧ KS (a + 1) t d R ρ' ∧ ρ'[6]? = some (some (.val (pathD p))) ∧ ρ'[7]? = some (some (.val (.int n))) ∧ ρ'[8]? = some (some (.val (l.D ds)))) ?_ ?_
  · simp [-getElem?_pos, KS, hl, h1, h2, h3, h4, h5, h6, h7, h8, h2, hl]
  clear hl h1 h2 h3 h4 h5 h6 h7 h8
  rintro ρ st' ⟨rfl, ⟨hl, h1, h2, h3, h4, h5⟩, h6, h7, h8⟩
  refine seq_sat (P := fun ρ' st => st = st' ∧ KS (a + 1) (t + lenSum l.words) d R ρ' ∧ ρ'[6]? = some (some (.val (pathD p))) ∧ ρ'[7]? = some (some (.val (.int n))) ∧ ρ'[8]? = some (some (.val (l.D ds)))) ?_ ?_
  · refine for_sat (ds := l.words.map D.str) (st1 := st') (fun i ρ' st => st = st' ∧ KS (a + 1) (t + lenSum (l.words.take i)) d R ρ' ∧ ρ'[6]? = some (some (.val (pathD p))) ∧ ρ'[7]? = some (some (.val (.int n))) ∧ ρ'[8]? = some (some (.val (l.D ds)))) ?_ ?_ ?_ ?_
    · simp [-getElem?_pos, KS, hl, h1, h2, h3, h4, h5, h6, h7, h8, h8, f_words st' hf']
    · exact ⟨rfl, ⟨hl, h1, h2, by simpa [lenSum] using h3, h4, h5⟩, h6, h7, h8⟩
    · clear hl h1 h2 h3 h4 h5 h6 h7 h8
      rintro i d' ρ st hi ⟨rfl, ⟨hl, h1, h2, h3, h4, h5⟩, h6, h7, h8⟩
      rw [List.getElem?_map] at hi
      cases hw : l.words[i]? with
      | none => rw [hw] at hi; cases hi
      | some w =>
        rw [hw] at hi
        cases hi
        have gw := good_words hg w (List.mem_of_getElem? hw)
        have es : lenSum (l.words.take (i + 1)) = lenSum (l.words.take i) + w.length := by
          unfold lenSum
          rw [List.take_add_one, hw]
          simp
        rw [stepT_nm (by omega)]
        unfold wordK
        simp [-getElem?_pos, KS, hl, h1, h2, h3, h4, h5, h6, h7, h8, h3, hl, es, ← Int.add_assoc, lenD_str (show w.length ≤ 1000 from Nat.le_trans gw.1 (by omega))]
    · rintro ρ st ⟨h0, h1, h2⟩
      rw [List.length_map, List.take_length] at h1
      exact ⟨h0, h1, h2⟩
  clear hl h1 h2 h3 h4 h5 h6 h7 h8
  rintro ρ st' ⟨rfl, ⟨hl, h1, h2, h3, h4, h5⟩, h6, h7, h8⟩
  refine seq_sat (P := fun ρ' st => st = st' ∧ KS (a + 1) (t + lenSum l.words) (if l.isL then max d (n + 1) else d) R ρ' ∧ ρ'[6]? = some (some (.val (pathD p))) ∧ ρ'[7]? = some (some (.val (.int ((n + l.isL.toNat : Nat) : Int)))) ∧ ρ'[8]? = some (some (.val (l.D ds)))) ?_ ?_
  · cases hL : l.isL with
    | false =>
      simp [-getElem?_pos, KS, hl, h1, h2, h3, h4, h5, h6, h7, h8, h8, lab_ix0, eqD_str, sort_list, hL, lab_deref]
    | true =>
      by_cases hd : d < n + 1
      · have hd' : (d : Int) < (n : Int) + 1 := by omega
        have em : max d (n + 1) = n + 1 := by omega
        simp [-getElem?_pos, KS, hl, h1, h2, h3, h4, h5, h6, h7, h8, h8, h7, h4, lab_ix0, eqD_str, sort_list, hL, hl, lab_deref, hd']
        omega
      · have hd' : ¬ (d : Int) < (n : Int) + 1 := by omega
        have em : max d (n + 1) = d := by omega
        simp [-getElem?_pos, KS, hl, h1, h2, h3, h4, h5, h6, h7, h8, h8, h7, h4, lab_ix0, eqD_str, sort_list, hL, hl, lab_deref, hd']
        omega
  clear hl h1 h2 h3 h4 h5 h6 h7 h8
  rintro ρ st' ⟨rfl, ⟨hl, h1, h2, h3, h4, h5⟩, h6, h7, h8⟩
  generalize (if l.isL then max d (n + 1) else d) = d2 at *
  generalize n + l.isL.toNat = n2 at *
  refine seq_sat (P := fun ρ' st => st = st' ∧ KS (a + 1) (t + lenSum l.words) d2 R ρ' ∧ ρ'[6]? = some (some (.val (pathD p))) ∧ ρ'[7]? = some (some (.val (.int (n2 : Int)))) ∧ ρ'[10]? = some (some (.val (.tup ds)))) ?_ ?_
  · simp [-getElem?_pos, KS, hl, h1, h2, h3, h4, h5, h6, h7, h8, h8, f_inner st' hf', hl]
  clear hl h1 h2 h3 h4 h5 h6 h7 h8
  rintro ρ st' ⟨rfl, ⟨hl, h1, h2, h3, h4, h5⟩, h6, h7, h8⟩
  refine for_sat (ds := (List.range ds.length).reverse.map fun (i : Nat) => D.int i) (st1 := st') (fun i ρ' st => st = st' ∧ KS (a + 1) (t + lenSum l.words) d2 (R ++ (((kidsN p n2 0 ds).map sitemD).reverse.take i)) ρ' ∧ ρ'[6]? = some (some (.val (pathD p))) ∧ ρ'[7]? = some (some (.val (.int (n2 : Int)))) ∧ ρ'[10]? = some (some (.val (.tup ds)))) ?_ ?_ ?_ ?_
  · exact r3_nat (by simp [-getElem?_pos, KS, hl, h1, h2, h3, h4, h5, h6, h7, h8, h8]) (by omega)
  · exact ⟨rfl, ⟨hl, h1, h2, h3, h4, by simpa using h5⟩, h6, h7, h8⟩
  · clear hl h1 h2 h3 h4 h5 h6 h7 h8
    rintro i d' ρ st hi ⟨rfl, ⟨hl, h1, h2, h3, h4, h5⟩, h6, h7, h8⟩
    obtain ⟨hi, rfl⟩ := down_at hi
    generalize hj : ds.length - 1 - i = j
    have hjl : j < ds.length := by omega
    have hk := List.getElem?_eq_getElem hjl
    have hs : ((kidsN p n2 0 ds).map sitemD).reverse[i]? = some (sitemD (p ++ [j], n2, ds[j])) := by
      rw [List.getElem?_reverse (by rw [List.length_map, kidsN_len]; omega), List.length_map, kidsN_len, hj, List.getElem?_map, kidsN_get p n2 0 ds j _ hk]
      simp
    have et : ((kidsN p n2 0 ds).map sitemD).reverse.take (i + 1) = ((kidsN p n2 0 ds).map sitemD).reverse.take i ++ [sitemD (p ++ [j], n2, ds[j])] := by
      rw [List.take_add_one, hs]; rfl
    have ea : addD (pathD p) (.tup [.int j]) st = .ok (pathD (p ++ [j])) st := by
      unfold pathD
      rw [addD_tup, if_pos (by rw [sizeLine_eq]; simp; omega)]
      simp
    have z : (R ++ ((kidsN p n2 0 ds).map sitemD).reverse.take i).length < sizeLine := by
      rw [sizeLine_eq, List.length_append, List.length_take]
      omega
    simp at z
    rw [stepT_nm (by omega)]
    unfold pushK
    simp [-getElem?_pos, KS, hl, h1, h2, h3, h4, h5, h6, h7, h8, h6, h7, h8, smallLine, ea, idx_tup hk, z, et, sitemD]
  · rintro ρ st ⟨h0, h1, h2, h3, h4⟩
    refine ⟨h0, ?_⟩
    rw [List.length_map, List.length_reverse, List.length_range] at h1
    rw [List.take_of_length_le (by rw [List.length_reverse, List.length_map, kidsN_len]; exact Nat.le_refl _)] at h1
    exact h1
end KP
set_option Elab.async false
set_option linter.all false
set_option maxRecDepth 100000
set_option maxHeartbeats 1000000
set_option autoImplicit false
/-! QD: the plain law of k53: kind_sizes through a tree; check_kind. -/
namespace KP
open PySem PySem.Spec PyProof.Rows L2 Ds KG
mutual
def Kd.ok : Kd → Prop
  | .mk l ks => (l.fits ks.length ∧ l.good) ∧ Kd.oks ks
def Kd.oks : List Kd → Prop
  | [] => True
  | k :: ks => k.ok ∧ Kd.oks ks
end
mutual
def Kd.letters : Kd → Nat
  | .mk l ks => lenSum l.words + Kd.letterss ks
def Kd.letterss : List Kd → Nat
  | [] => 0
  | k :: ks => k.letters + Kd.letterss ks
end
mutual
def deepS (n : Nat) : Kd → Nat
  | .mk l ks => max (if l.isL then n + 1 else 0) (deepSs (n + l.isL.toNat) ks)
def deepSs (n : Nat) : List Kd → Nat
  | [] => 0
  | k :: ks => max (deepS n k) (deepSs n ks)
end
mutual
theorem Kd.ok.wf : ∀ {k : Kd}, k.ok → k.wf
  | .mk l ks, h => by
    unfold Kd.ok at h
    unfold Kd.wf
    exact ⟨h.1.1, Kd.oks.wfs h.2⟩
theorem Kd.oks.wfs : ∀ {ks : List Kd}, Kd.oks ks → Kd.wfs ks
  | [], _ => by unfold Kd.wfs; trivial
  | k :: ks, h => by
    unfold Kd.oks at h
    unfold Kd.wfs
    exact ⟨Kd.ok.wf h.1, Kd.oks.wfs h.2⟩
end
theorem sizes_len : ∀ ks : List Kd, ks.length ≤ Kd.sizes ks
  | [] => Nat.le_refl _
  | k :: ks => by
    have := sizes_len ks
    have := size_pos k
    unfold Kd.sizes
    rw [List.length_cons]
    omega
theorem KS.am {a t d : Nat} {R : List D} {ρ : En} (h : KS a t d R ρ) : ρ[2]? = some (some (.val (.int a))) := h.2.2.1
theorem KS.le {a t d : Nat} {R : List D} {ρ : En} (h : KS a t d R ρ) : ρ[3]? = some (some (.val (.int t))) := h.2.2.2.1
theorem KS.de {a t d : Nat} {R : List D} {ρ : En} (h : KS a t d R ρ) : ρ[4]? = some (some (.val (.int d))) := h.2.2.2.2.1
theorem KS.sk {a t d : Nat} {R : List D} {ρ : En} (h : KS a t d R ρ) : ρ[5]? = some (some (.own R)) := h.2.2.2.2.2
theorem kds_cons (k : Kd) (ks : List Kd) : Kd.Ds (k :: ks) = k.D :: Kd.Ds ks := by rw [Kd.Ds]
theorem kidsN_cons (p : List Nat) (n i : Nat) (d : Ds.D) (ds : List Ds.D) : kidsN p n i (d :: ds) = (p ++ [i], n, d) :: kidsN p n (i + 1) ds := rfl
noncomputable def condK : SB := fun ρ st => ((sOwn 5) ρ st).bind truD
theorem condK_yes {a t d : Nat} {R : List D} {x : D} {ρ : En} {st : Sto} (h : KS a t d (R ++ [x]) ρ) : condK ρ st = .ok true st := by
  unfold condK
  simp [h.sk]
theorem condK_no {a t d : Nat} {ρ : En} {st : Sto} (h : KS a t d [] ρ) : condK ρ st = .ok false st := by
  unfold condK
  simp [h.sk]
mutual
/-- a good tree on top of the stack is gone through -/
theorem peel : ∀ (k : Kd) (p : List Nat) (n a t d : Nat) (R : List D) (ρ : En) (st : Sto), k.ok → p.length + k.size ≤ 1000 → R.length + k.size ≤ 50000 → KS a t d (R ++ [sitemD (p, n, k.D)]) ρ →
    ∃ ρ', KS (a + k.size) (t + k.letters) (max d (deepS n k)) R ρ' ∧ qWhile condK bodyK ρ st = qWhile condK bodyK ρ' st
  | .mk l ks, p, n, a, t, d, R, ρ, st, ho, hp, hR, hk => by
    unfold Kd.ok at ho
    unfold Kd.size at hp hR
    rw [kd_eq] at hk
    have hl : (Kd.Ds ks).length = ks.length := by rw [kds_map, List.length_map]
    obtain ⟨fl, st1, e1, q1⟩ := sat_out (turn_sizes (st := st) (by rw [hl]; exact ho.1.1) ho.1.2 (by omega) (by omega) hk)
    cases fl with
    | rt r => exact q1.elim
    | bk r => exact q1.elim
    | ct r => exact q1.elim
    | nx ρ1 =>
      obtain ⟨rfl, q1⟩ := q1
      obtain ⟨ρ2, q2, e2⟩ := peels ks p (n + l.isL.toNat) 0 _ _ _ R ρ1 st1 ho.2 (by omega) (by omega) q1
      refine ⟨ρ2, ?_, ?_⟩
      · unfold Kd.size Kd.letters deepS
        have e3 : max (if l.isL = true then max d (n + 1) else d) (deepSs (n + l.isL.toNat) ks) = max d (max (if l.isL = true then n + 1 else 0) (deepSs (n + l.isL.toNat) ks)) := by
          split <;> omega
        rw [e3] at q2
        rw [Nat.add_assoc, Nat.add_assoc] at q2
        exact q2
      · rw [qWhile_next (condK_yes hk) e1, e2]
theorem peels : ∀ (ks : List Kd) (p : List Nat) (n i a t d : Nat) (R : List D) (ρ : En) (st : Sto), Kd.oks ks → p.length + 1 + Kd.sizes ks ≤ 1000 → R.length + 1 + Kd.sizes ks ≤ 50000 → KS a t d (R ++ ((kidsN p n i (Kd.Ds ks)).map sitemD).reverse) ρ →
    ∃ ρ', KS (a + Kd.sizes ks) (t + Kd.letterss ks) (max d (deepSs n ks)) R ρ' ∧ qWhile condK bodyK ρ st = qWhile condK bodyK ρ' st
  | [], p, n, i, a, t, d, R, ρ, st, _, _, _, hk => by
    refine ⟨ρ, ?_, rfl⟩
    unfold Kd.sizes Kd.letterss deepSs
    rw [Nat.max_zero]
    simpa [Kd.Ds, kidsN] using hk
  | k :: ks, p, n, i, a, t, d, R, ρ, st, ho, hp, hR, hk => by
    unfold Kd.oks at ho
    unfold Kd.sizes at hp hR
    have hl := sizes_len ks
    have hlD : (Kd.Ds ks).length = ks.length := by rw [kds_map, List.length_map]
    have e0 : R ++ ((kidsN p n i (Kd.Ds (k :: ks))).map sitemD).reverse = (R ++ ((kidsN p n (i + 1) (Kd.Ds ks)).map sitemD).reverse) ++ [sitemD (p ++ [i], n, k.D)] := by
      rw [kds_cons, kidsN_cons, List.map_cons, List.reverse_cons, List.append_assoc]
    rw [e0] at hk
    obtain ⟨ρ1, q1, e1⟩ := peel k (p ++ [i]) n a t d _ ρ st ho.1 (by rw [List.length_append, List.length_singleton]; omega) (by
      rw [List.length_append, List.length_reverse, List.length_map, kidsN_len, hlD]
      omega) hk
    obtain ⟨ρ2, q2, e2⟩ := peels ks p n (i + 1) _ _ _ R ρ1 st ho.2 (by have := size_pos k; omega) (by have := size_pos k; omega) q1
    refine ⟨ρ2, ?_, by rw [e1, e2]⟩
    unfold Kd.sizes Kd.letterss deepSs
    rw [Nat.max_assoc, Nat.add_assoc, Nat.add_assoc] at q2
    exact q2
end
noncomputable def startK (d : D) : En := [some (.val d), some (.val (.bl false)), some (.val (.int 0)), some (.val (.int 0)), some (.val (.int 0)), some (.own [sitemD ([], 0, d)]), none, none, none, none, none, none]
theorem startK_ks {d : D} : KS 0 0 0 ([] ++ [sitemD ([], 0, d)]) (startK d) := ⟨rfl, rfl, rfl, rfl, rfl, rfl⟩
theorem sizes_go {d : D} {st : Sto} {X : Out Fl} (h : ∃ Y, qWhile condK bodyK (startK d) st = Y ∧ seqK (qRet (sTup (sCons (sVar 2) (sCons (sVar 3) (sCons (sVar 4) sNil))))) Y = X) : B_kind_sizes [some (.val d), some (.val (.bl false)), none, none, none, none, none, none, none, none, none, none] st = X := by
  obtain ⟨Y, e, e2⟩ := h
  unfold condK bodyK wordK pushK startK at e
  unfold B_kind_sizes
  rw [seq_go (ρ1 := [some (.val d), some (.val (.bl false)), some (.val (.int 0)), none, none, none, none, none, none, none, none, none]) (st1 := st) (by simp)]
  rw [seq_go (ρ1 := [some (.val d), some (.val (.bl false)), some (.val (.int 0)), some (.val (.int 0)), none, none, none, none, none, none, none, none]) (st1 := st) (by simp)]
  rw [seq_go (ρ1 := [some (.val d), some (.val (.bl false)), some (.val (.int 0)), some (.val (.int 0)), some (.val (.int 0)), none, none, none, none, none, none, none]) (st1 := st) (by simp)]
  rw [seq_go (ρ1 := [some (.val d), some (.val (.bl false)), some (.val (.int 0)), some (.val (.int 0)), some (.val (.int 0)), some (.own [sitemD ([], 0, d)]), none, none, none, none, none, none]) (st1 := st) (by simp [smallLine, sitemD, pathD])]
  rw [qSeq_eq, e]
  exact e2
/-- the sizes of a kind -/
theorem f_sizes {k : Kd} {st : Sto} (ho : k.ok) (hz : k.size ≤ 1000) : F_kind_sizes [k.D, .bl false] st = .ok (.val (.tup [.int k.size, .int k.letters, .int (deepS 0 k)])) st := by
  obtain ⟨ρ1, q1, e1⟩ := peel k [] 0 0 0 0 [] (startK k.D) st ho (by simpa using hz) (by simp; omega) startK_ks
  simp only [Nat.zero_add, Nat.zero_max] at q1
  rw [qWhile_end (condK_no q1)] at e1
  have b := sizes_go (X := .ok (.rt (.val (.tup [.int k.size, .int k.letters, .int (deepS 0 k)]))) st) ⟨_, e1, by simp [q1.am, q1.le, q1.de, smallLine]⟩
  unfold F_kind_sizes
  simp [b]
/-- the bounds of a kind -/
def Kd.fine (k : Kd) : Prop := k.ok ∧ k.size ≤ 24 ∧ k.letters ≤ 60 ∧ deepS 0 k ≤ 3
theorem f_check {k : Kd} {st : Sto} (h : k.fine) : F_check_kind [k.D, .bl false] st = .ok (.val .non) st := by
  obtain ⟨h1, h2, h3, h4⟩ := h
  unfold F_check_kind B_check_kind
  have e := f_sizes (st := st) h1 (by omega)
  have a2 : ¬ ((24 : Int) < (k.size : Int)) := by omega
  have a3 : ¬ ((60 : Int) < (k.letters : Int)) := by omega
  have a4 : ¬ ((3 : Int) < (deepS 0 k : Int)) := by omega
  simp [e, a2, a3, a4]
/-! ### a faulty node -/
def badKind (p : List Nat) : Ex := ⟨"BadKind", [("path", pathD p)]⟩
/-- no node -/
def Bad (b : D) : Prop := ∀ st, F_good_node [b, .bl false] st = .ok (.val (.bl false)) st
theorem turn_bad {b : D} {p : List Nat} {n a t d : Nat} {R : List D} {ρ : En} {st : Sto} (hb : Bad b) (hk : KS a t d (R ++ [sitemD (p, n, b)]) ρ) : ∃ ρ', bodyK ρ st = .err (badKind p) ρ' st := by
  obtain ⟨hl, h1, h2, h3, h4, h5⟩ := hk
  refine ⟨(((ρ.set 5 (some (.own R))).set 6 (some (.val (pathD p)))).set 7 (some (.val (.int n)))).set 8 (some (.val b)), ?_⟩
  unfold bodyK
  simp [-getElem?_pos, h5, sitemD, hl, h1, hb st, raiseX, badKind]
theorem f_sizes_bad {b : D} {st : Sto} (hb : Bad b) : F_kind_sizes [b, .bl false] st = .err (badKind []) [] st := by
  obtain ⟨ρ1, e1⟩ := turn_bad (st := st) hb startK_ks
  have e2 := qWhile_err (condK_yes startK_ks) e1
  have b := sizes_go (X := .err (badKind []) ρ1 st) ⟨_, e2, by simp⟩
  unfold F_kind_sizes
  simp [b]
/-- a good node whose second child is none -/
theorem f_sizes_bad1 {l : Lab} {k : Kd} {b : D} {st : Sto} (hf : l.fits 2) (hg : l.good) (ho : k.ok) (hz : k.size ≤ 900) (hb : Bad b) : F_kind_sizes [l.D [k.D, b], .bl false] st = .err (badKind [1]) [] st := by
  obtain ⟨fl, st1, e1, q1⟩ := sat_out (turn_sizes (ds := [k.D, b]) (l := l) (p := []) (n := 0) (R := []) (st := st) hf hg (by simp) (by simp) startK_ks)
  cases fl with
  | rt r => exact q1.elim
  | bk r => exact q1.elim
  | ct r => exact q1.elim
  | nx ρ1 =>
    obtain ⟨rfl, q1⟩ := q1
    have e0 : ([] ++ ((kidsN [] (0 + l.isL.toNat) 0 [k.D, b]).map sitemD).reverse : List D) = [sitemD ([1], 0 + l.isL.toNat, b)] ++ [sitemD ([0], 0 + l.isL.toNat, k.D)] := rfl
    rw [e0] at q1
    obtain ⟨ρ2, q2, e2⟩ := peel k [0] _ _ _ _ _ ρ1 st1 ho (by simp; omega) (by simp; omega) q1
    have q2' : KS _ _ _ ([] ++ [sitemD ([1], 0 + l.isL.toNat, b)]) ρ2 := q2
    obtain ⟨ρ3, e3⟩ := turn_bad (st := st1) hb q2'
    have e4 := qWhile_err (condK_yes q2') e3
    rw [← e2, ← qWhile_next (condK_yes startK_ks) e1] at e4
    have b := sizes_go (X := .err (badKind [1]) ρ3 st1) ⟨_, e4, by simp⟩
    unfold F_kind_sizes
    simp [b]
theorem f_check_err {d : D} {x : Ex} {st : Sto} (h : F_kind_sizes [d, .bl false] st = .err x [] st) : F_check_kind [d, .bl false] st = .err x [] st := by
  unfold F_check_kind B_check_kind
  simp [h]
end KP
set_option Elab.async false
set_option linter.all false
set_option maxRecDepth 100000
set_option maxHeartbeats 1000000
set_option autoImplicit false
/-! QE: the plain law of k53: nodes, words_of, places_of, letters_of, depth_of, node_at, branches_of, line_of. -/
namespace KP
open PySem PySem.Spec PyProof.Rows L2 Ds KG
theorem lc2_go {α : Type} {f : α → D} {step : D → List D → Sto → Out (List D)} {g : α → List D} {st : Sto} {N : Nat} (all : List α) : ∀ (xs : List α) (i : Nat) (acc : List D), all.drop i = xs → (∀ x ∈ xs, ∀ acc : List D, acc.length + (g x).length ≤ N → step (f x) acc st = .ok (acc ++ g x) st) → acc.length + (xs.flatMap g).length ≤ N →
    lcF2 (.fix (all.map f)) step (xs.length + 1) i acc st = .ok (acc ++ xs.flatMap g) st
  | [], i, acc, h, _, _ => by
    have : (all.map f)[i]? = none := by
      rw [List.getElem?_eq_none_iff, List.length_map]
      exact List.drop_eq_nil_iff.mp h
    rw [lcF2_succ, IT.now_fix]
    simp only [this]
    simp
  | x :: xs, i, acc, h, hs, hz => by
    have h1 : all[i]? = some x := by
      have := congrArg (fun l => l[0]?) h
      simpa using this
    have h1' : (all.map f)[i]? = some (f x) := by rw [List.getElem?_map, h1]; rfl
    have h2 : all.drop (i + 1) = xs := by
      have := congrArg (fun l => l.drop 1) h
      simpa using this
    rw [List.flatMap_cons, List.length_append] at hz
    rw [lcF2_succ, IT.now_fix]
    simp only [h1']
    rw [hs x List.mem_cons_self acc (by omega), Out.bind_ok]
    rw [List.length_cons]
    rw [lc2_go all xs (i + 1) (acc ++ g x) h2 (fun e he => hs e (List.mem_cons_of_mem _ he)) (by rw [List.length_append]; omega), List.flatMap_cons, List.append_assoc]
theorem lc2_on {α : Type} {f : α → D} {step : D → List D → Sto → Out (List D)} {g : α → List D} {st : Sto} {N : Nat} (xs : List α) (acc : List D) (h : ∀ x ∈ xs, ∀ acc : List D, acc.length + (g x).length ≤ N → step (f x) acc st = .ok (acc ++ g x) st) (hz : acc.length + (xs.flatMap g).length ≤ N) :
    lcF2 (.fix (xs.map f)) step (xs.length + 1) 0 acc st = .ok (acc ++ xs.flatMap g) st := lc2_go xs xs 0 acc rfl h hz
theorem lc_on {α : Type} {f : α → D} {step : D → Sto → Out (Option D)} {g : α → Option D} {st : Sto} (xs : List α) (acc : List D) (h : ∀ x ∈ xs, step (f x) st = .ok (g x) st) (hz : acc.length + xs.length ≤ 100000) : lcL step (xs.map f) acc st = .ok (acc ++ xs.filterMap g) st := by
  induction xs generalizing acc with
  | nil => simp [lcL]
  | cons x xs ih =>
    rw [List.length_cons] at hz
    rw [List.map_cons]
    unfold lcL
    rw [h x List.mem_cons_self, Out.bind_ok]
    have ih := fun acc hz => ih acc (fun y hy => h y (List.mem_cons_of_mem _ hy)) hz
    cases e : g x with
    | none =>
      show lcL step _ acc st = _
      rw [ih acc (by omega), List.filterMap_cons, e]
    | some y =>
      show (if _ then _ else _) = _
      rw [if_pos (by rw [sizeLine_eq]; omega), ih (acc ++ [y]) (by simp; omega), List.filterMap_cons, e]
      simp
theorem lc_mp {α : Type} {f : α → D} {step : D → Sto → Out (Option D)} {g : α → D} {st : Sto} (xs : List α) (h : ∀ x ∈ xs, step (f x) st = .ok (some (g x)) st) (hz : xs.length ≤ 100000) : lcL step (xs.map f) [] st = .ok (xs.map g) st := by
  rw [lc_on (g := fun x => some (g x)) xs [] h (by simpa using hz), List.nil_append, show (fun x => some (g x)) = some ∘ g from rfl, List.filterMap_eq_map]
mutual
theorem walk_len (p : List Nat) (up : Bool) : ∀ k : Kd, (walk p up k).length = k.size
  | .mk l ks => by
    unfold walk Kd.size
    rw [List.length_cons, walks_len p (up != l.isT) 0 ks, Nat.add_comm]
theorem walks_len (p : List Nat) (up : Bool) : ∀ (i : Nat) (ks : List Kd), (walks p up i ks).length = Kd.sizes ks
  | _, [] => by unfold walks Kd.sizes; rfl
  | i, k :: ks => by
    unfold walks Kd.sizes
    rw [List.length_append, walk_len (p ++ [i]) up k, walks_len p up (i + 1) ks]
end
mutual
/-- what holds of all nodes of a good tree -/
theorem walk_all (p : List Nat) (up : Bool) : ∀ (k : Kd), k.ok → ∀ x ∈ walk p up k, x.2.1.ok
  | .mk l ks, ho, x, hx => by
    unfold walk at hx
    rcases List.mem_cons.mp hx with h | h
    · subst h; exact ho
    · unfold Kd.ok at ho
      exact walks_all p (up != l.isT) 0 ks ho.2 x h
theorem walks_all (p : List Nat) (up : Bool) : ∀ (i : Nat) (ks : List Kd), Kd.oks ks → ∀ x ∈ walks p up i ks, x.2.1.ok
  | _, [], _, x, hx => by unfold walks at hx; cases hx
  | i, k :: ks, ho, x, hx => by
    unfold Kd.oks at ho
    unfold walks at hx
    rcases List.mem_append.mp hx with h | h
    · exact walk_all (p ++ [i]) up k ho.1 x h
    · exact walks_all p up (i + 1) ks ho.2 x h
end
theorem ok_lab {k : Kd} (h : k.ok) : k.lab.fits (Kd.Ds k.ks).length ∧ k.lab.good ∧ k.D = k.lab.D (Kd.Ds k.ks) := by
  obtain ⟨l, ks⟩ := k
  unfold Kd.ok at h
  refine ⟨?_, h.1.2, kd_eq l ks⟩
  rw [kds_map, List.length_map]
  exact h.1.1
def rowD (x : Item) : D := .tup [pathD x.1, .str x.2.1.lab.sort, dirD x.2.2]
theorem kd_ix0 (k : Kd) {st : Sto} : idxD k.D (.int 0) st = .ok (.str k.lab.sort) st := by
  obtain ⟨l, ks⟩ := k
  rw [kd_eq]
  exact lab_ix0 l _
/-- the nodes -/
theorem f_nodes {k : Kd} {st : Sto} (h : k.fine) : F_nodes [k.D] st = .ok (.val (.tup ((walk [] true k).map rowD))) st := by
  obtain ⟨ho, hz, _, _⟩ := id h
  have e1 := f_rows (st := st) ho.wf (by omega)
  have e2 : ∀ s0 : Option Sl, lcL (stepC (.tp [(.nm 1), (.nm 2), (.nm 3)]) bYes (sTup (sCons (sVar 1) (sCons (sIx (sVar 2) (sC (.int 0))) (sCons (sVar 3) sNil)))) [s0, none, none, none]) ((walk [] true k).map itemD) [] st = .ok ((walk [] true k).map rowD) st := fun s0 => by
    refine lc_mp _ (fun x _ => ?_) (by rw [walk_len]; omega)
    simp [stepC_eq, itemD, kd_deref, kd_ix0, smallLine, rowD]
  unfold F_nodes B_nodes
  simp [f_check h, e1, e2]
theorem f_letters {k : Kd} {st : Sto} (h : k.fine) : F_letters_of [k.D] st = .ok (.val (.int k.letters)) st := by
  obtain ⟨ho, hz, _, _⟩ := id h
  unfold F_letters_of B_letters_of
  simp [f_check h, f_sizes (st := st) ho (by omega)]
theorem f_depth {k : Kd} {st : Sto} (h : k.fine) : F_depth_of [k.D] st = .ok (.val (.int (deepS 0 k))) st := by
  obtain ⟨ho, hz, _, _⟩ := id h
  unfold F_depth_of B_depth_of
  simp [f_check h, f_sizes (st := st) ho (by omega)]
/-- the words, each with its path -/
def wordsOf (x : Item) : List D := x.2.1.lab.words.map fun w => .tup [pathD x.1, .str w]
theorem words_len {k : Kd} (h : k.ok) : k.lab.words.length ≤ 10 := by
  obtain ⟨hf, _, _⟩ := ok_lab h
  obtain ⟨l, ks⟩ := k
  cases l with
  | row => exact Nat.zero_le _
  | turned => exact Nat.zero_le _
  | table es =>
    have h2 : es.length ≤ 10 := hf.2
    show (es.map _).length ≤ 10
    rw [List.length_map]
    exact h2
  | choice es =>
    have h2 : _ = es.length ∧ _ := hf
    show (es.map _).length ≤ 10
    rw [List.length_map]
    have := h2.2
    omega
  | list a b s => exact (by omega : 2 ≤ 10)
theorem flat_len {α β : Type} {f : α → List β} {m : Nat} : ∀ l : List α, (∀ x ∈ l, (f x).length ≤ m) → (l.flatMap f).length ≤ m * l.length
  | [], _ => by simp
  | x :: l, h => by
    have := flat_len l fun y hy => h y (List.mem_cons_of_mem _ hy)
    have := h x List.mem_cons_self
    rw [List.flatMap_cons, List.length_append, List.length_cons, Nat.mul_add]
    omega
theorem wordsOf_len {x : Item} (h : x.2.1.ok) : (wordsOf x).length ≤ 10 := by
  unfold wordsOf
  rw [List.length_map]
  exact words_len h
theorem f_words_of {k : Kd} {st : Sto} (h : k.fine) : F_words_of [k.D] st = .ok (.val (.tup ((walk [] true k).flatMap wordsOf))) st := by
  obtain ⟨ho, hz, _, _⟩ := id h
  have e1 := f_rows (st := st) ho.wf (by omega)
  have hall := walk_all [] true k ho
  have hfz : ((walk [] true k).flatMap wordsOf).length ≤ 240 := by
    have := flat_len (f := wordsOf) (m := 10) (walk [] true k) fun x hx => wordsOf_len (hall x hx)
    rw [walk_len] at this
    omega
  have e2 : ∀ s0 : Option Sl, lcF2 (.fix ((walk [] true k).map itemD)) (stepB (.tp [(.nm 1), (.nm 2), (.nm 3)]) bYes (sIt (sCall F_own_words [] (sCons (sVar 2) sNil))) (.nm 4) bYes (sTup (sCons (sVar 1) (sCons (sVar 4) sNil))) [4] [s0, none, none, none, none]) ((walk [] true k).length + 1) 0 [] st = .ok ((walk [] true k).flatMap wordsOf) st := fun s0 => by
    refine lc2_on (N := 100000) (walk [] true k) [] ?_ (by rw [List.length_nil]; omega)
    intro x hx acc hz
    have hxo := hall x hx
    obtain ⟨hf, hg, e⟩ := ok_lab hxo
    have hwl := wordsOf_len hxo
    have e3 : ∀ s3 : Option Sl, lcF2 (.fix (x.2.1.lab.words.map D.str)) (stepA (.nm 4) bYes (sTup (sCons (sVar 1) (sCons (sVar 4) sNil))) [s0, some (.val (pathD x.1)), s3, some (.val (dirD x.2.2)), none]) (x.2.1.lab.words.length + 1) 0 acc st = .ok (acc ++ wordsOf x) st := fun s3 => by
      have e4 : x.2.1.lab.words.flatMap (fun w => [D.tup [pathD x.1, .str w]]) = wordsOf x := by
        unfold wordsOf
        induction x.2.1.lab.words with
        | nil => rfl
        | cons w ws ih => rw [List.flatMap_cons, ih]; rfl
      rw [← e4]
      refine lc2_on (N := 100000) _ acc ?_ (by rw [e4]; omega)
      intro w hw acc hz
      have : acc.length < sizeLine := by
        rw [sizeLine_eq]
        have : acc.length + 1 ≤ 100000 := hz
        omega
      unfold stepA
      simp [smallLine, this]
    unfold stepB
    simp [itemD, e, f_words st hf, e3]
  unfold F_words_of B_words_of sLc2
  simp [f_check h, e1, e2]
/-- the places -/
def placeOf (x : Item) : Option D := if 2 ≤ x.2.1.lab.branches then some (pathD x.1) else none
theorem f_branchK {k : Kd} (st : Sto) (h : k.ok) : F_branch_count [k.D] st = .ok (.val (.int k.lab.branches)) st := by
  obtain ⟨hf, hg, e⟩ := ok_lab h
  rw [e]
  exact f_branch st hf
theorem f_places {k : Kd} {st : Sto} (h : k.fine) : F_places_of [k.D] st = .ok (.val (.tup ((walk [] true k).filterMap placeOf))) st := by
  obtain ⟨ho, hz, _, _⟩ := id h
  have e1 := f_rows (st := st) ho.wf (by omega)
  have hall := walk_all [] true k ho
  have e2 : ∀ s0 : Option Sl, lcL (stepC (.tp [(.nm 1), (.nm 2), (.nm 3)]) (c2 (ordD true false) (sCall F_branch_count [] (sCons (sVar 2) sNil)) (sV (sC (.int 2)))) (sVar 1) [s0, none, none, none]) ((walk [] true k).map itemD) [] st = .ok ((walk [] true k).filterMap placeOf) st := fun s0 => by
    refine lc_on _ [] (fun x hx => ?_) (by rw [walk_len, List.length_nil]; omega)
    unfold placeOf
    by_cases hb : 2 ≤ x.2.1.lab.branches
    · have hb' : ¬ (x.2.1.lab.branches : Int) < 2 := by omega
      simp [stepC_eq, itemD, f_branchK st (hall x hx), hb, hb']
    · have hb' : (x.2.1.lab.branches : Int) < 2 := by omega
      simp [stepC_eq, itemD, f_branchK st (hall x hx), hb, hb']
  unfold F_places_of B_places_of
  simp [f_check h, e1, e2]
/-! ### a node by its path -/
theorem kd_nn (k : Kd) {st : Sto} : isNB id k.D .non st = .ok false st := by
  obtain ⟨l, ks⟩ := k
  rw [kd_eq]
  cases l <;> rfl
theorem f_node_at {k c : Kd} {p : List Nat} {st : Sto} (h : k.fine) (hg : get k p = some c) : F_node_at [k.D, pathD p] st = .ok (.val c.D) st := by
  unfold F_node_at B_node_at
  simp [f_check h, f_get h.1.wf hg, kd_nn]
theorem get_ok : ∀ (p : List Nat) (k c : Kd), k.ok → get k p = some c → c.ok
  | [], k, c, hw, h => by
    simp only [get, Option.some.injEq] at h
    subst h; exact hw
  | i :: p, .mk l ks, c, hw, h => by
    unfold Kd.ok at hw
    unfold get at h
    cases hk : (Kd.mk l ks).ks[i]? with
    | none => rw [hk] at h; cases h
    | some x =>
      rw [hk] at h
      exact get_ok p x c (oks_get hw.2 hk) h
where
  oks_get : ∀ {ks : List Kd} {i : Nat} {c : Kd}, Kd.oks ks → ks[i]? = some c → c.ok
  | [], i, c, _, h => by simp at h
  | k :: ks, 0, c, hw, h => by
    simp only [List.getElem?_cons_zero, Option.some.injEq] at h
    subst h
    unfold Kd.oks at hw
    exact hw.1
  | k :: ks, i + 1, c, hw, h => by
    unfold Kd.oks at hw
    exact oks_get hw.2 (by simpa using h)
theorem f_decision {k c : Kd} {p : List Nat} {st : Sto} (h : k.fine) (hg : get k p = some c) (hb : c.lab.branches ≠ 0) : F_decision_node [k.D, pathD p] st = .ok (.val c.D) st := by
  unfold F_decision_node B_decision_node
  simp [f_check h, f_get h.1.wf hg, kd_nn, f_branchK st (get_ok p k c h.1 hg), eqD_int, hb]
theorem f_branches {k c : Kd} {p : List Nat} {st : Sto} (h : k.fine) (hg : get k p = some c) (hb : c.lab.branches ≠ 0) : F_branches_of [k.D, pathD p] st = .ok (.val (.int c.lab.branches)) st := by
  unfold F_branches_of B_branches_of
  simp [f_decision h hg hb, f_branchK st (get_ok p k c h.1 hg)]
/-- the line of a node -/
def Lab.line (l : Lab) (up : Bool) : List Ds.D := match l with
  | .list _ _ s => if decide (s = "first") = up then [.int 0, .int 1] else [.int 1, .int 0]
  | l => if up then rgL l.branches else (rgL l.branches).reverse
theorem f_line_for {k : Kd} {up : Bool} {st : Sto} (h : k.ok) : F_line_for [k.D, dirD up] st = .ok (.val (.tup (k.lab.line up))) st := by
  obtain ⟨hf, hg, e⟩ := ok_lab h
  have eb := f_branchK st h
  have hb : k.lab.branches ≤ 10 := by
    obtain ⟨l, ks⟩ := k
    cases l with
    | table es => exact hf.2
    | choice es =>
      have h1 : _ = es.length := hf.1
      have h2 : (Kd.Ds _).length ≤ 6 := hf.2
      show es.length ≤ 10
      simp only [Kd.ks] at h1 h2
      omega
    | list a b s => exact (by omega : 2 ≤ 10)
    | row => exact Nat.zero_le _
    | turned => exact Nat.zero_le _
  have er : rgTD (.int k.lab.branches) st = .ok (.tup (rgL k.lab.branches)) st := by
    show (if _ then _ else _) = _
    rw [if_pos (by omega)]
  have b : B_line_for [some (.val k.D), some (.val (dirD up)), none] st = .ok (.rt (.val (.tup (k.lab.line up)))) st := by
    unfold B_line_for
    rw [seq_go (ρ1 := [some (.val k.D), some (.val (dirD up)), some (.val (.tup (rgL k.lab.branches)))]) (st1 := st) (by simp [eb, er])]
    obtain ⟨l, ks⟩ := k
    cases l with
    | list a b s =>
      have h1 : (Kd.Ds ks).length = 1 := hf
      obtain ⟨d, hd⟩ := List.length_eq_one_iff.mp h1
      have ee : (Kd.mk (.list a b s) ks).D = .tup [.str "list", .str a, .str b, .str s, d] := by rw [kd_eq, hd]; rfl
      rw [ee]
      obtain ⟨_, _, g3⟩ := hg
      rcases g3 with rfl | rfl <;> cases up <;> simp [eqD_str, ofString_inj, dirD, smallLine, sRevT, Kd.lab, Lab.line, Lab.branches] <;> rfl
    | row => cases up <;> simp [kd_ix0, kd_deref, eqD_str, ofString_inj, dirD, smallLine, sRevT, Kd.lab, Lab.line, Lab.branches, Lab.sort]
    | turned => cases up <;> simp [kd_ix0, kd_deref, eqD_str, ofString_inj, dirD, smallLine, sRevT, Kd.lab, Lab.line, Lab.branches, Lab.sort]
    | table es => cases up <;> simp [kd_ix0, kd_deref, eqD_str, ofString_inj, dirD, smallLine, sRevT, Kd.lab, Lab.line, Lab.branches, Lab.sort]
    | choice es => cases up <;> simp [kd_ix0, kd_deref, eqD_str, ofString_inj, dirD, smallLine, sRevT, Kd.lab, Lab.line, Lab.branches, Lab.sort]
  unfold F_line_for
  simp [b]
theorem f_line_of {k c : Kd} {p : List Nat} {st : Sto} (h : k.fine) (hg : get k p = some c) (hb : c.lab.branches ≠ 0) : F_line_of [k.D, pathD p] st = .ok (.val (.tup (c.lab.line (dirAt k p true)))) st := by
  unfold F_line_of B_line_of
  simp [f_decision h hg hb, f_dir h.1.wf hg, f_line_for (get_ok p k c h.1 hg)]
end KP
set_option Elab.async false
set_option linter.all false
set_option maxRecDepth 100000
set_option maxHeartbeats 1000000
set_option autoImplicit false
/-! QF: the plain law of k53: a thing is the same as itself, as the law tells it. -/
namespace KP
open PySem PySem.Spec PyProof.Rows L2 Ds KG
mutual
def pl : D → Prop
  | .non => True
  | .bl _ => True
  | .int _ => True
  | .str _ => True
  | .tup xs => pls xs
  | .lst xs => pls xs
  | .fz _ => False
  | .ref _ => False
def pls : List D → Prop
  | [] => True
  | x :: xs => pl x ∧ pls xs
end
mutual
def sz : D → Nat
  | .non => 1
  | .bl _ => 1
  | .int _ => 1
  | .str _ => 1
  | .tup xs => 1 + szs xs
  | .lst xs => 1 + szs xs
  | .fz _ => 1
  | .ref _ => 1
def szs : List D → Nat
  | [] => 0
  | x :: xs => sz x + szs xs
end
theorem pls_iff : ∀ xs : List D, pls xs ↔ ∀ x ∈ xs, pl x
  | [] => by simp [pls]
  | x :: xs => by simp [pls, pls_iff xs]
theorem szs_cons (x : D) (xs : List D) : szs (x :: xs) = sz x + szs xs := by rw [szs]
theorem szs_sum : ∀ xs : List D, szs xs = (xs.map sz).sum
  | [] => rfl
  | x :: xs => by simp [szs, szs_sum xs]
theorem sz_pos (d : D) : 1 ≤ sz d := by cases d <;> unfold sz <;> omega
theorem szs_len : ∀ xs : List D, xs.length ≤ szs xs
  | [] => Nat.le_refl _
  | x :: xs => by
    have := szs_len xs
    have := sz_pos x
    unfold szs
    rw [List.length_cons]
    omega
theorem szs_app : ∀ xs ys : List D, szs (xs ++ ys) = szs xs + szs ys
  | [], ys => by simp [szs]
  | x :: xs, ys => by
    have := szs_app xs ys
    rw [List.cons_append, szs_cons, szs_cons]
    omega
mutual
theorem pl_plain : ∀ d : D, pl d → d.py.plain = true
  | .non, _ => rfl
  | .bl _, _ => rfl
  | .int _, _ => rfl
  | .str _, _ => rfl
  | .tup xs, h => by
    unfold pl at h
    exact plain_tup (pls_plain xs h)
  | .lst xs, h => by
    unfold pl at h
    show PyData.plainAll (D.pys xs) = true
    rw [pys_map, plainAll_iff]
    intro y hy
    obtain ⟨x, hx, rfl⟩ := List.mem_map.mp hy
    exact pls_plain xs h x hx
  | .fz _, h => by unfold pl at h; exact h.elim
  | .ref _, h => by unfold pl at h; exact h.elim
theorem pls_plain : ∀ xs : List D, pls xs → ∀ x ∈ xs, x.py.plain = true
  | [], _, x, hx => by cases hx
  | y :: xs, h, x, hx => by
    unfold pls at h
    rcases List.mem_cons.mp hx with e | e
    · rw [e]; exact pl_plain y h.1
    · exact pls_plain xs h.2 x e
end
def pr (d : D) : D := .tup [d, d]
/-- what stands in a thing -/
def within : D → List D
  | .tup xs => xs
  | .lst xs => xs
  | _ => []
theorem within_sz {d : D} (h : pl d) : szs (within d) + 1 = sz d := by
  cases d <;> simp [within, sz, szs, Nat.add_comm]
theorem within_pl {d : D} (h : pl d) : pls (within d) := by
  cases d <;> first | exact h | (unfold within; unfold pls; trivial)
theorem if_t {k : SB} {q r : SS} {ρ : En} {st st1 : Sto} (h : k ρ st = .ok true st1) : qIf k q r ρ st = q ρ st1 := by rw [qIf_eq, h, ifK_t]
theorem if_f {k : SB} {q r : SS} {ρ : En} {st st1 : Sto} (h : k ρ st = .ok false st1) : qIf k q r ρ st = r ρ st1 := by rw [qIf_eq, h, ifK_f]
noncomputable def pushS : SS := (qM 2 kApp (sCons (sTup (sCons (sIx (sVar 0) (sVar 4)) (sCons (sIx (sVar 1) (sVar 4)) sNil))) sNil))
noncomputable def turnS : SS := (qSeq (qPop (.tp [(.nm 0), (.nm 1)]) 2) (qIf (bOr (c2 (isNB id) (sVar 0) (sV (sC .non))) (c2 (isNB id) (sVar 1) (sV (sC .non)))) (qIf (bOr (c2 (isNB not) (sVar 0) (sV (sC .non))) (c2 (isNB not) (sVar 1) (sV (sC .non)))) (qRet (sC (.bl false))) qNil) (qIf (bOr (sTst (s1 (isiR "bool") (sVar 0))) (sTst (s1 (isiR "bool") (sVar 1)))) (qIf (bOr (bNot (sTst (s1 (isiR "bool") (sVar 0)))) (bOr (bNot (sTst (s1 (isiR "bool") (sVar 1)))) (c2 neD (sVar 0) (sV (sVar 1))))) (qRet (sC (.bl false))) qNil) (qIf (bOr (sTst (s1 (isiR "int") (sVar 0))) (sTst (s1 (isiR "str") (sVar 0)))) (qSeq (qIf (bOr (c2 neD (s1 (isiR "int") (sVar 0)) (sV (s1 (isiR "int") (sVar 1)))) (c2 neD (s1 (isiR "str") (sVar 0)) (sV (s1 (isiR "str") (sVar 1))))) (qRet (sC (.bl false))) qNil) (qIf (c2 neD (sVar 0) (sV (sVar 1))) (qRet (sC (.bl false))) qNil)) (qIf (bAnd (sTst (s1 (isiR "dict") (sVar 0))) (sTst (s1 (isiR "dict") (sVar 1)))) (qSeq (fun _ _ => .bad) (fun _ _ => .bad)) (qIf (bOr (c2 neD (s1 (isiR "tuple") (sVar 0)) (sV (s1 (isiR "tuple") (sVar 1)))) (c2 neD (s1 (isiR "list") (sVar 0)) (sV (s1 (isiR "list") (sVar 1))))) (qRet (sC (.bl false))) (qIf (bAnd (bNot (sTst (s1 (isiR "tuple") (sVar 0)))) (bNot (sTst (s1 (isiR "list") (sVar 0))))) (qRet (sC (.bl false))) (qIf (c2 neD (s1 lenD (sV (sVar 0))) (sV (s1 lenD (sV (sVar 1))))) (qRet (sC (.bl false))) (qFor (sItA r1D (sCons (s1 lenD (sV (sVar 0))) sNil)) (.nm 4) pushS)))))))))
theorem isNB_idn {k : Bool → Bool} {d : D} {st : Sto} (h : d ≠ .non) : isNB k d .non st = .ok (k false) st := by
  cases d <;> first | exact absurd rfl h | rfl
theorem push_same {d : D} {R : List D} {s3 s4 : Option Sl} {st : Sto} (hd : (∃ xs, d = .tup xs) ∨ ∃ xs, d = .lst xs) (hz : (within d).length ≤ 100000) (hR : R.length + (within d).length ≤ 900000) :
    ∃ t4, qFor (sItA r1D (sCons (s1 lenD (sV (sVar 0))) sNil)) (.nm 4) pushS [some (.val d), some (.val d), some (.own R), s3, s4] st = .ok (.nx [some (.val d), some (.val d), some (.own (R ++ (within d).map pr)), s3, t4]) st := by
  have hl : lenD d st = .ok (.int (within d).length) st := by rcases hd with ⟨xs, rfl⟩ | ⟨xs, rfl⟩ <;> rfl
  have hdr : derefD d st = .ok d st := by rcases hd with ⟨xs, rfl⟩ | ⟨xs, rfl⟩ <;> rfl
  have hix : ∀ (i : Nat) (x : D), (within d)[i]? = some x → idxD d (.int i) st = .ok x st := by
    intro i x h
    rcases hd with ⟨xs, rfl⟩ | ⟨xs, rfl⟩
    · exact idx_tup h
    · exact idx_lst h
  obtain ⟨ρ', st', e1, ⟨t4, rfl⟩, rfl⟩ := for_inv (step := stepT (.nm 4) pushS) (fun i ρ st' => (∃ t4, ρ = [some (.val d), some (.val d), some (.own (R ++ ((within d).map pr).take i)), s3, t4]) ∧ st' = st) (rng 0 1 (within d).length) 0
    [some (.val d), some (.val d), some (.own R), s3, s4] st ⟨⟨s4, by simp⟩, rfl⟩ (fun i e ρ st' hi h => by
      obtain ⟨⟨t4, rfl⟩, rfl⟩ := h
      obtain ⟨hi2, rfl⟩ := rng_at hi
      have hx := List.getElem?_eq_getElem hi2
      have z : R.length + min i (within d).length < sizeLine := by rw [sizeLine_eq]; omega
      have et : ((within d).map pr).take (i + 1) = ((within d).map pr).take i ++ [pr (within d)[i]] := by
        rw [List.take_add_one, List.getElem?_map, hx]; rfl
      rw [Nat.zero_add, stepT_eq]
      unfold pushS
      simp [hdr, hix i _ hx, z, smallLine, et, pr])
  refine ⟨t4, ?_⟩
  have el : (rng 0 1 (within d).length).length = (within d).length := by unfold rng; rw [List.length_map, List.length_range]
  rw [Nat.zero_add, el, List.take_of_length_le (by rw [List.length_map]; exact Nat.le_refl _)] at e1
  exact for_go (r1_nat (by simp [hdr, hl]) (by omega)) e1
theorem turn_same {d : D} {R : List D} {s0 s1 s3 s4 : Option Sl} {st : Sto} (hp : pl d) (hz : sz d ≤ 100000) (hR : R.length + sz d ≤ 900000) :
    ∃ t4, turnS [s0, s1, some (.own (R ++ [pr d])), s3, s4] st = .ok (.nx [some (.val d), some (.val d), some (.own (R ++ (within d).map pr)), s3, t4]) st := by
  have e0 : qPop (.tp [(.nm 0), (.nm 1)]) 2 [s0, s1, some (.own (R ++ [pr d])), s3, s4] st = .ok (.nx [some (.val d), some (.val d), some (.own R), s3, s4]) st := by simp [pr]
  have hw := within_sz hp
  have hl := szs_len (within d)
  have hq : ((∃ xs, d = .tup xs) ∨ ∃ xs, d = .lst xs) → ∃ t4, qFor (sItA r1D (sCons (Ds.s1 lenD (sV (sVar 0))) sNil)) (.nm 4) pushS [some (.val d), some (.val d), some (.own R), s3, s4] st = .ok (.nx [some (.val d), some (.val d), some (.own (R ++ (within d).map pr)), s3, t4]) st :=
    fun h => push_same h (by omega) (by omega)
  unfold turnS
  rw [seq_go e0]
  generalize qFor (sItA r1D (sCons (Ds.s1 lenD (sV (sVar 0))) sNil)) (.nm 4) pushS = F at hq ⊢
  cases d with
  | non => exact ⟨s4, by simp [isNB, within]⟩
  | bl b => exact ⟨s4, by simp [isNB_idn, neD_bl, within]⟩
  | int b => exact ⟨s4, by simp [isNB_idn, neD_bl, neD_int, within]⟩
  | str b => exact ⟨s4, by simp [isNB_idn, neD_bl, neD_str, within]⟩
  | tup xs =>
    obtain ⟨t4, e⟩ := hq (.inl ⟨_, rfl⟩)
    refine ⟨t4, ?_⟩
    rw [if_f (st1 := st) (by simp [isNB_idn]), if_f (st1 := st) (by simp), if_f (st1 := st) (by simp), if_f (st1 := st) (by simp), if_f (st1 := st) (by simp [neD_bl]), if_f (st1 := st) (by simp), if_f (st1 := st) (by simp [neD_int])]
    exact e
  | lst xs =>
    obtain ⟨t4, e⟩ := hq (.inr ⟨_, rfl⟩)
    refine ⟨t4, ?_⟩
    rw [if_f (st1 := st) (by simp [isNB_idn]), if_f (st1 := st) (by simp), if_f (st1 := st) (by simp), if_f (st1 := st) (by simp), if_f (st1 := st) (by simp [neD_bl]), if_f (st1 := st) (by simp), if_f (st1 := st) (by simp [neD_int])]
    exact e
  | fz xs => unfold pl at hp; exact hp.elim
  | ref n => unfold pl at hp; exact hp.elim
noncomputable def bodyS : SS := (qSeq (qIf (c2 eqD (sOwn 2) (sV (sF (sLst sNil)))) (qRet (sC (.bl true))) qNil) turnS)
theorem loop_same {st : Sto} : ∀ (m : Nat) (ds : List D) (S : List D) (s0 s1 s3 s4 : Option Sl), szs S ≤ m → m < ds.length → pls S → m ≤ 100000 →
    forL (stepT (.nm 3) bodyS) ds [s0, s1, some (.own (S.map pr)), s3, s4] st = .ok (.rt (.val (.bl true))) st
  | m, [], S, s0, s1, s3, s4, _, hd, _, _ => by simp at hd
  | m, d :: ds, S, s0, s1, s3, s4, hm, hd, hp, hz => by
    rcases List.eq_nil_or_concat S with rfl | ⟨S, x, rfl⟩
    · have one : stepT (.nm 3) bodyS d [s0, s1, some (.own []), s3, s4] st = .ok (.rt (.val (.bl true))) st := by
        have e0 : eqD (.lst []) (.lst []) st = .ok true st := eqD_nil (fun x hx => by cases hx)
        rw [stepT_nm (by simp)]
        unfold bodyS
        simp [smallLine, e0]
      show (stepT (.nm 3) bodyS d [s0, s1, some (.own []), s3, s4] st).bind _ = _
      rw [one]; rfl
    · rw [List.concat_eq_append] at *
      have hp' := (pls_iff _).mp hp
      have hx := hp' x (by simp)
      have e1 : szs (S ++ [x]) = szs S + sz x := by rw [szs_app, szs_cons]; rfl
      have hw := within_sz hx
      have hl := szs_len S
      have h1 := sz_pos x
      obtain ⟨t4, e⟩ := turn_same (d := x) (R := S.map pr) (s0 := s0) (s1 := s1) (s3 := some (.val d)) (s4 := s4) (st := st) hx (by omega) (by rw [List.length_map]; omega)
      have one : stepT (.nm 3) bodyS d [s0, s1, some (.own ((S ++ [x]).map pr)), s3, s4] st = .ok (.nx [some (.val x), some (.val x), some (.own ((S ++ within x).map pr)), some (.val d), t4]) st := by
        have e0 : eqD (.lst ((S ++ [x]).map pr)) (.lst []) st = .ok false st := by
          rw [eqD_nil (fun y hy => ?_)]
          · simp
          · obtain ⟨z, hz, rfl⟩ := List.mem_map.mp hy
            refine plain_tup fun u hu => ?_
            have : u = z := by simpa using hu
            rw [this]
            exact pl_plain z (hp' z hz)
        rw [stepT_nm (by simp)]
        unfold bodyS
        have e2 : qIf (c2 eqD (sOwn 2) (sV (sF (sLst sNil)))) (qRet (sC (.bl true))) qNil [s0, s1, some (.own ((S ++ [x]).map pr)), some (.val d), s4] st = .ok (.nx [s0, s1, some (.own ((S ++ [x]).map pr)), some (.val d), s4]) st := by
          simp only [qIf_eq, c2_eq, sOwn_eq, sV_eq, sF_eq, sLst_eq, sNil_eq, lstK_ok, List.length_nil]
          simp [smallLine, -List.map_append, e0]
        show qSeq _ _ [s0, s1, some (.own ((S ++ [x]).map pr)), some (.val d), s4] st = _
        rw [seq_go e2]
        rw [List.map_append, List.map_append]
        exact e
      show (stepT (.nm 3) bodyS d _ st).bind _ = _
      rw [one]
      show forL _ _ _ st = _
      rw [List.length_cons] at hd
      refine loop_same (m - 1) ds (S ++ within x) _ _ _ _ ?_ (by omega) ?_ (by omega)
      · rw [szs_app]; omega
      · rw [pls_iff]
        intro y hy
        rcases List.mem_append.mp hy with h | h
        · exact hp' y (by simp [h])
        · exact (pls_iff _).mp (within_pl hx) y h
/-- the same as itself -/
theorem f_same {d : D} {st : Sto} (hp : pl d) (hz : sz d ≤ 100000) : F__law_same [d, d] st = .ok (.val (.bl true)) st := by
  have e := loop_same (st := st) (sz d) (rng 0 1 400000) [d] (some (.val d)) (some (.val d)) none none (by simp [szs]) (by unfold rng; rw [List.length_map, List.length_range]; omega) (by simp [pls, hp]) hz
  have b : B__law_same [some (.val d), some (.val d), none, none, none] st = .ok (.rt (.val (.bl true))) st := by
    unfold bodyS turnS pushS at e
    unfold B__law_same
    rw [seq_go (ρ1 := [some (.val d), some (.val d), some (.own [pr d]), none, none]) (st1 := st) (by simp [smallLine, pr])]
    have g : sItA r1D (sCons (sC (.int 400000)) sNil) [some (.val d), some (.val d), some (.own [pr d]), none, none] st = .ok (.fix (rng 0 1 400000)) st := by
      have : sCons (sC (.int 400000)) sNil [some (.val d), some (.val d), some (.own [pr d]), none, none] st = .ok [.int 400000] st := by simp
      rw [sItA_eq, this, itAK_ok]
      exact r1_ok (n := 400000) (st := st) (by omega)
    rw [qSeq_eq, for_go g e]
    rfl
  unfold F__law_same
  simp [b]
end KP
set_option Elab.async false
set_option linter.all false
set_option maxRecDepth 100000
set_option maxHeartbeats 1000000
set_option autoImplicit false
/-! QG: the plain law of k53: _law_lists, _law_line, _law_nodes_hold. -/
namespace KP
open PySem PySem.Spec PyProof.Rows L2 Ds KG
theorem pys_strs (ss : List Str) : D.pys (ss.map D.str) = ss.map PyData.str := by
  rw [pys_map, List.map_map]; rfl
theorem depth_strs : ∀ ss : List Str, PyData.depthAll (ss.map PyData.str) = 0
  | [] => rfl
  | s :: ss => by simp only [List.map_cons, PyData.depthAll, depth_strs ss, PyData.depth]; rfl
theorem any_strs (a : Str) (ss : List Str) : ((ss.map PyData.str).any fun y => PyData.eqv y (.str a)) = decide (a ∈ ss) := by
  induction ss with
  | nil => simp
  | cons s ss ih =>
    rw [List.map_cons, List.any_cons, ih]
    have e : PyData.eqv (.str s) (.str a) = decide (a = s) := by
      simp only [PyData.eqv]
      by_cases h : a = s
      · subst h; simp
      · have : ¬ s = a := fun q => h q.symm
        simp [h, this]
    rw [e]
    by_cases h1 : a = s <;> by_cases h2 : a ∈ ss <;> simp [h1, h2]
theorem plain_strs : ∀ ss : List Str, PyData.plainAll (ss.map PyData.str) = true
  | [] => rfl
  | s :: ss => by simp only [List.map_cons, PyData.plainAll, plain_strs ss, PyData.plain]; rfl
theorem in_tup {k : Bool → Bool} {a : Str} {ss : List Str} {st : Sto} : inB k (.str a) (.tup (ss.map D.str)) st = .ok (k (decide (a ∈ ss))) st := by
  show (if _ then _ else _) = _
  rw [pys_strs, if_pos ⟨rfl, plain_strs ss, Nat.le_trans (Nat.min_le_left _ _) (by rw [depth_strs]; omega)⟩]
  show Out.ok (k ((ss.map PyData.str).any fun y => PyData.eqv y (.str a))) st = _
  rw [any_strs]
theorem in_lst {k : Bool → Bool} {a : Str} {ss : List Str} {st : Sto} : inB k (.str a) (.lst (ss.map D.str)) st = .ok (k (decide (a ∈ ss))) st := by
  show (if _ then _ else _) = _
  rw [pys_strs, if_pos ⟨rfl, plain_strs ss, Nat.le_trans (Nat.min_le_left _ _) (by rw [depth_strs]; omega)⟩]
  show Out.ok (k ((ss.map PyData.str).any fun y => PyData.eqv y (.str a))) st = _
  rw [any_strs]
theorem in_tup2 {k : Bool → Bool} {a b c : Str} {st : Sto} : inB k (.str a) (.tup [.str b, .str c]) st = .ok (k (decide (a = b) || decide (a = c))) st := by
  have := in_tup (k := k) (a := a) (ss := [b, c]) (st := st)
  simp only [List.map_cons, List.map_nil] at this
  rw [this]
  simp
theorem in_tup3 {k : Bool → Bool} {a b c d : Str} {st : Sto} : inB k (.str a) (.tup [.str b, .str c, .str d]) st = .ok (k (decide (a = b) || (decide (a = c) || decide (a = d)))) st := by
  have := in_tup (k := k) (a := a) (ss := [b, c, d]) (st := st)
  simp only [List.map_cons, List.map_nil] at this
  rw [this]
  simp
def Lab.place (l : Lab) : Bool := l.isL || decide (1 < l.words.length)
def listD (x : Item) : D := .tup [pathD x.1, .str x.2.1.lab.sort, .bl x.2.2, .lst (x.2.1.lab.words.map .str), .bl x.2.1.lab.place]
noncomputable def bodyLi : SS := (qSeq (qSet 5 (sIf (c2 (inB id) (sIx (sVar 3) (sC (.int 0))) (sV (sTup (sCons (sC (.str "table")) (sCons (sC (.str "choice")) sNil))))) (sF (sLc (sIt (sIx (sVar 3) (sC (.int 1)))) (.nm 7) bYes (sIx (sVar 7) (sC (.int 1))) [7])) (sF (sLst sNil)))) (qSeq (qIf (c2 eqD (sIx (sVar 3) (sC (.int 0))) (sV (sC (.str "list")))) (qSet 5 (sF (sLst (sCons (sIx (sVar 3) (sC (.int 1))) (sCons (sIx (sVar 3) (sC (.int 2))) sNil))))) qNil) (qSeq (qSet 6 (vOr (sB (c2 eqD (sIx (sVar 3) (sC (.int 0))) (sV (sC (.str "list"))))) (sB (c2 (ordD false true) (s1 lenD (sV (sVar 5))) (sV (sC (.int 1))))))) (qM 1 kApp (sCons (sTup (sCons (sVar 2) (sCons (sIx (sVar 3) (sC (.int 0))) (sCons (sVar 4) (sCons (sVar 5) (sCons (sVar 6) sNil)))))) sNil)))))
theorem turn_lists {x : Item} {F : List D} {s0 s2 s3 s4 s5 s6 s7 : Option Sl} {st : Sto} (h : x.2.1.ok) (hF : F.length ≤ 100000) : ∃ t2 t3 t4 t5 t6, stepT (.tp [(.nm 2), (.nm 3), (.nm 4)]) bodyLi (litemD x) [s0, some (.own F), s2, s3, s4, s5, s6, s7] st = .ok (.nx [s0, some (.own (F ++ [listD x])), t2, t3, t4, t5, t6, s7]) st := by
  obtain ⟨p, ⟨l, ks⟩, up⟩ := x
  obtain ⟨hf, hg, e⟩ := ok_lab h
  simp only at hf hg e
  have z : F.length < sizeLine := by rw [sizeLine_eq]; omega
  refine ⟨some (.val (pathD p)), some (.val (l.D (Kd.Ds ks))), some (.val (.bl up)), some (.val (.lst (l.words.map .str))), some (.val (.bl l.place)), ?_⟩
  have bind : stepT (.tp [(.nm 2), (.nm 3), (.nm 4)]) bodyLi (litemD (p, .mk l ks, up)) [s0, some (.own F), s2, s3, s4, s5, s6, s7] st = bodyLi [s0, some (.own F), some (.val (pathD p)), some (.val (l.D (Kd.Ds ks))), some (.val (.bl up)), s5, s6, s7] st := by
    simp [stepT_eq, litemD, kd_eq]
  rw [bind]
  unfold bodyLi
  cases l with
  | row =>
    simp [Lab.D, eqD_str, ofString_inj, in_tup2, smallLine, Lab.words, Lab.place, Lab.isL, z, listD, Kd.lab, Lab.sort]
  | turned =>
    have h1 : (Kd.Ds ks).length = 1 := hf
    obtain ⟨d, hd⟩ := List.length_eq_one_iff.mp h1
    simp [Lab.D, eqD_str, ofString_inj, in_tup2, smallLine, Lab.words, Lab.place, Lab.isL, z, listD, Kd.lab, Lab.sort, hd]
  | list a b s =>
    have h1 : (Kd.Ds ks).length = 1 := hf
    obtain ⟨d, hd⟩ := List.length_eq_one_iff.mp h1
    simp [Lab.D, eqD_str, ofString_inj, in_tup2, smallLine, Lab.words, Lab.place, Lab.isL, z, listD, Kd.lab, Lab.sort, hd]
  | table es =>
    obtain ⟨h1, h2⟩ : (Kd.Ds ks).length = 0 ∧ es.length ≤ 10 := hf
    have e : ∀ (s1 s2 s3 s4 s5 s6 : Option Sl), lcL (stepC (.nm 7) bYes (sIx (sVar 7) (sC (.int 1))) [s0, s1, s2, s3, s4, s5, s6, none]) (es.map pairD) [] st = .ok (es.map fun p => .str p.2) st := fun _ _ _ _ _ _ => by
      refine lc_mp _ (fun p _ => ?_) (by omega)
      simp [stepC_eq, pairD]
    simp [Lab.D, eqD_str, ofString_inj, in_tup2, smallLine, Lab.words, Lab.place, Lab.isL, z, listD, Kd.lab, Lab.sort, e]
    omega
  | choice es =>
    obtain ⟨h1, h2⟩ : (Kd.Ds ks).length = es.length ∧ (Kd.Ds ks).length ≤ 6 := hf
    have e : ∀ (s1 s2 s3 s4 s5 s6 : Option Sl), lcL (stepC (.nm 7) bYes (sIx (sVar 7) (sC (.int 1))) [s0, s1, s2, s3, s4, s5, s6, none]) (List.zipWith tripD es (Kd.Ds ks)) [] st = .ok (es.map fun p => .str p.2) st := fun _ _ _ _ _ _ => by
      rw [lcL_map (g := second) _ _ (fun d hd => ?_) (by simp [List.length_zipWith]; exact smallLine (by omega))]
      · rw [second_trip h1]; rfl
      · obtain ⟨p, d', rfl⟩ := trip_mem hd
        simp [stepC_eq, tripD, second]
    simp [Lab.D, eqD_str, ofString_inj, in_tup2, smallLine, Lab.words, Lab.place, Lab.isL, z, listD, Kd.lab, Lab.sort, e]
    omega
/-- the law's own rows -/
theorem f_lists {k : Kd} {st : Sto} (ho : k.ok) (hz : k.size ≤ 300) : F__law_lists [k.D] st = .ok (.own ((walk [] true k).map listD)) st := by
  have hall := walk_all [] true k ho
  have hlen := walk_len [] true k
  have e1 := f_lwalk (st := st) ho.wf (by omega)
  obtain ⟨ρ', st', e2, h⟩ := for_inv (step := stepT (.tp [(.nm 2), (.nm 3), (.nm 4)]) bodyLi) (fun i ρ st' => st' = st ∧ ∃ t2 t3 t4 t5 t6, ρ = [some (.val k.D), some (.own (((walk [] true k).map listD).take i)), t2, t3, t4, t5, t6, none]) ((walk [] true k).map litemD) 0
    [some (.val k.D), some (.own []), none, none, none, none, none, none] st ⟨rfl, none, none, none, none, none, rfl⟩ (fun i d ρ st' hi h => by
      obtain ⟨rfl, t2, t3, t4, t5, t6, rfl⟩ := h
      rw [List.getElem?_map] at hi
      cases hx : (walk [] true k)[i]? with
      | none => rw [hx] at hi; cases hi
      | some x =>
        rw [hx] at hi
        cases hi
        obtain ⟨u2, u3, u4, u5, u6, e⟩ := turn_lists (x := x) (F := ((walk [] true k).map listD).take i) (s0 := some (.val k.D)) (s2 := t2) (s3 := t3) (s4 := t4) (s5 := t5) (s6 := t6) (s7 := none) (st := st') (hall x (List.mem_of_getElem? hx)) (by rw [List.length_take, List.length_map]; omega)
        refine sat_of (by rw [Nat.zero_add]; exact e) ?_
        refine ⟨rfl, u2, u3, u4, u5, u6, ?_⟩
        have : ((walk [] true k).map listD).take (0 + i + 1) = ((walk [] true k).map listD).take i ++ [listD x] := by
          rw [Nat.zero_add, List.take_add_one, List.getElem?_map, hx]; rfl
        rw [this])
  obtain ⟨rfl, t2, t3, t4, t5, t6, rfl⟩ := h
  rw [Nat.zero_add, List.length_map, List.take_of_length_le (by rw [List.length_map]; exact Nat.le_refl _)] at e2
  have b : B__law_lists [some (.val k.D), none, none, none, none, none, none, none] st' = .ok (.rt (.own ((walk [] true k).map listD))) st' := by
    unfold bodyLi at e2
    unfold B__law_lists
    rw [seq_go (ρ1 := [some (.val k.D), some (.own []), none, none, none, none, none, none]) (st1 := st') (by simp [smallLine])]
    rw [seq_go (for_go (by simp [e1]) e2)]
    simp
  unfold F__law_lists
  simp [b]
end KP
set_option Elab.async false
set_option linter.all false
set_option maxRecDepth 100000
set_option maxHeartbeats 1000000
set_option autoImplicit false
/-! QH: the plain law of k53: _law_line, _law_nodes_hold. -/
namespace KP
open PySem PySem.Spec PyProof.Rows L2 Ds KG
theorem eqD_bl {a b : Bool} {st : Sto} : eqD (.bl a) (.bl b) st = .ok (a == b) st := by
  unfold eqD
  rw [if_pos ⟨rfl, rfl, by simp [D.py, PyData.depth]⟩]
  cases a <;> cases b <;> rfl
theorem rgL_len (n : Nat) : (rgL (n : Int)).length = n := by unfold rgL; simp
theorem line_len {k : Kd} (h : k.ok) (up : Bool) : (k.lab.line up).length = k.lab.branches := by
  obtain ⟨l, ks⟩ := k
  cases l with
  | list a b s => simp only [Kd.lab, Lab.line, Lab.branches]; split <;> rfl
  | _ => simp only [Kd.lab, Lab.line]; cases up <;> simp [rgL_len]
theorem branches_le {k : Kd} (h : k.ok) : k.lab.branches ≤ 10 := by
  obtain ⟨hf, hg, e⟩ := ok_lab h
  obtain ⟨l, ks⟩ := k
  cases l with
  | table es => exact hf.2
  | choice es =>
    have h1 : _ = es.length := hf.1
    have h2 : (Kd.Ds _).length ≤ 6 := hf.2
    show es.length ≤ 10
    simp only [Kd.ks] at h1 h2
    omega
  | list a b s => exact (by omega : 2 ≤ 10)
  | row => exact Nat.zero_le _
  | turned => exact Nat.zero_le _
theorem f_lline {k : Kd} {up : Bool} {st : Sto} (h : k.ok) (hb : k.lab.branches ≠ 0) : F__law_line [k.D, .bl up] st = .ok (.val (.tup (k.lab.line up))) st := by
  obtain ⟨hf, hg, e⟩ := ok_lab h
  have hb10 := branches_le h
  have er : ∀ n : Nat, n ≤ 10 → rgLD (.int n) st = .ok (rgL n) st := fun n hn => by
    show (if _ then _ else _) = _
    rw [if_pos (by omega)]
  obtain ⟨l, ks⟩ := k
  cases l with
  | row => exact absurd rfl hb
  | turned => exact absurd rfl hb
  | list a b s =>
    have h1 : (Kd.Ds ks).length = 1 := hf
    obtain ⟨d, hd⟩ := List.length_eq_one_iff.mp h1
    have ee : (Kd.mk (.list a b s) ks).D = .tup [.str "list", .str a, .str b, .str s, d] := by rw [kd_eq, hd]; rfl
    rw [ee]
    unfold F__law_line B__law_line
    obtain ⟨_, _, g3⟩ := hg
    rcases g3 with rfl | rfl <;> cases up <;> simp [eqD_str, eqD_bl, ofString_inj, smallLine, Kd.lab, Lab.line, Lab.branches]
  | table es =>
    have h2 : es.length ≤ 10 := hb10
    unfold F__law_line B__law_line
    cases up <;> simp [kd_eq, Lab.D, eqD_str, ofString_inj, smallLine, Kd.lab, Lab.line, Lab.branches, er _ h2, sRevO]
  | choice es =>
    have h2 : es.length ≤ 10 := hb10
    have h1 : (Kd.Ds ks).length = es.length := hf.1
    have h3 : (List.zipWith tripD es (Kd.Ds ks)).length = es.length := by rw [List.length_zipWith, h1, Nat.min_self]
    unfold F__law_line B__law_line
    cases up <;> simp [kd_eq, Lab.D, eqD_str, ofString_inj, smallLine, Kd.lab, Lab.line, Lab.branches, h1, er _ h2, sRevO]
/-! ### trees are things that can be the same -/
theorem pls_ints (p : List Nat) : pls (p.map fun (n : Nat) => D.int n) := (pls_iff _).mpr fun x hx => by
  obtain ⟨n, _, rfl⟩ := List.mem_map.mp hx
  unfold pl; trivial
theorem pl_path (p : List Nat) : pl (pathD p) := by
  unfold pathD pl
  exact pls_ints p
theorem szs_ints : ∀ p : List Nat, szs (p.map fun (n : Nat) => D.int n) = p.length
  | [] => rfl
  | n :: p => by rw [List.map_cons, szs_cons, szs_ints p, List.length_cons, sz]; omega
theorem sz_path (p : List Nat) : sz (pathD p) = 1 + p.length := by
  unfold pathD
  rw [sz, szs_ints]
theorem szs_le {m : Nat} : ∀ xs : List D, (∀ x ∈ xs, sz x ≤ m) → szs xs ≤ m * xs.length
  | [], _ => by simp [szs]
  | x :: xs, h => by
    have := szs_le xs fun y hy => h y (List.mem_cons_of_mem _ hy)
    have := h x List.mem_cons_self
    rw [szs_cons, List.length_cons, Nat.mul_add]
    omega
theorem zip_pl : ∀ (es : List (Str × Str)) (ds : List Ds.D), pls ds → pls (List.zipWith tripD es ds)
  | [], _, _ => by simp [pls]
  | _ :: _, [], _ => by simp [pls]
  | e :: es, d :: ds, h => by
    unfold pls at h
    rw [List.zipWith_cons_cons]
    unfold pls
    refine ⟨?_, zip_pl es ds h.2⟩
    simp [tripD, pl, pls, h.1]
theorem zip_sz : ∀ (es : List (Str × Str)) (ds : List Ds.D), szs (List.zipWith tripD es ds) ≤ 3 * es.length + szs ds
  | [], ds => by simp [szs]
  | e :: es, [] => by simp [szs]
  | e :: es, d :: ds => by
    have := zip_sz es ds
    rw [List.zipWith_cons_cons, szs_cons, szs_cons, List.length_cons]
    have : sz (tripD e d) = 3 + sz d := by simp [tripD, sz, szs]; omega
    omega
theorem lab_pl {l : Lab} {ds : List Ds.D} (h : pls ds) : pl (l.D ds) := by
  cases l with
  | row => simp [Lab.D, pl, pls, h]
  | table es =>
    have : pls (es.map pairD) := (pls_iff _).mpr fun x hx => by
      obtain ⟨p, _, rfl⟩ := List.mem_map.mp hx
      simp [pairD, pl, pls]
    simp [Lab.D, pl, pls, this]
  | choice es =>
    have := zip_pl es ds h
    simp [Lab.D, pl, pls, this]
  | list a b s => simp [Lab.D, pl, pls, h]
  | turned => simp [Lab.D, pl, pls, h]
theorem lab_sz {l : Lab} {ds : List Ds.D} (h : l.fits ds.length) : sz (l.D ds) ≤ 40 + szs ds := by
  cases l with
  | row => simp [Lab.D, sz, szs]; omega
  | table es =>
    have h2 : es.length ≤ 10 := h.2
    have : szs (es.map pairD) ≤ 3 * (es.map pairD).length := szs_le _ fun x hx => by
      obtain ⟨p, _, rfl⟩ := List.mem_map.mp hx
      simp [pairD, sz, szs]
    rw [List.length_map] at this
    simp [Lab.D, sz, szs]
    omega
  | choice es =>
    have h1 : ds.length = es.length := h.1
    have h2 : ds.length ≤ 6 := h.2
    have := zip_sz es ds
    simp [Lab.D, sz, szs]
    omega
  | list a b s => simp [Lab.D, sz, szs]; omega
  | turned => simp [Lab.D, sz, szs]; omega
mutual
theorem kd_pl : ∀ k : Kd, pl k.D
  | .mk l ks => by rw [kd_eq]; exact lab_pl (kds_pl ks)
theorem kds_pl : ∀ ks : List Kd, pls (Kd.Ds ks)
  | [] => by unfold Kd.Ds; unfold pls; trivial
  | k :: ks => by rw [kds_cons]; unfold pls; exact ⟨kd_pl k, kds_pl ks⟩
end
mutual
theorem kd_sz : ∀ k : Kd, k.ok → sz k.D ≤ 40 * k.size
  | .mk l ks, h => by
    obtain ⟨hf, _, _⟩ := ok_lab h
    unfold Kd.ok at h
    have h1 := lab_sz (l := l) (ds := Kd.Ds ks) hf
    have h2 := kds_sz ks h.2
    rw [kd_eq]
    unfold Kd.size
    omega
theorem kds_sz : ∀ ks : List Kd, Kd.oks ks → szs (Kd.Ds ks) ≤ 40 * Kd.sizes ks
  | [], _ => by unfold Kd.Ds; simp [szs]
  | k :: ks, h => by
    unfold Kd.oks at h
    have h1 := kd_sz k h.1
    have h2 := kds_sz ks h.2
    rw [kds_cons, szs_cons]
    unfold Kd.sizes
    omega
end
theorem f_same_kd {k : Kd} {st : Sto} (h : k.fine) : F__law_same [k.D, k.D] st = .ok (.val (.bl true)) st := f_same (kd_pl k) (by
  have := kd_sz k h.1
  have := h.2.1
  omega)
/-! ### where the nodes stand -/
theorem app_cons (p : List Nat) (i : Nat) (q : List Nat) : p ++ [i] ++ q = p ++ i :: q := by simp
mutual
theorem walk_get (p : List Nat) (up : Bool) : ∀ (k : Kd), ∀ x ∈ walk p up k, ∃ q, x.1 = p ++ q ∧ get k q = some x.2.1 ∧ dirAt k q up = x.2.2
  | .mk l ks, x, hx => by
    unfold walk at hx
    rcases List.mem_cons.mp hx with h | h
    · subst h
      exact ⟨[], by simp, by simp [get], by simp [dirAt]⟩
    · obtain ⟨j, q, c, h1, h2, h3, h4⟩ := walks_get p (up != l.isT) 0 ks x h
      refine ⟨j :: q, by simpa using h1, ?_, ?_⟩
      · unfold get
        rw [show (Kd.mk l ks).ks[j]? = some c from h2]
        exact h3
      · unfold dirAt
        rw [show (Kd.mk l ks).ks[j]? = some c from h2]
        exact h4
theorem walks_get (p : List Nat) (up : Bool) : ∀ (i : Nat) (ks : List Kd), ∀ x ∈ walks p up i ks, ∃ j q c, x.1 = p ++ (i + j) :: q ∧ ks[j]? = some c ∧ get c q = some x.2.1 ∧ dirAt c q up = x.2.2
  | _, [], x, hx => by unfold walks at hx; cases hx
  | i, k :: ks, x, hx => by
    unfold walks at hx
    rcases List.mem_append.mp hx with h | h
    · obtain ⟨q, h1, h2, h3⟩ := walk_get (p ++ [i]) up k x h
      exact ⟨0, q, k, by rw [h1, app_cons]; rfl, rfl, h2, h3⟩
    · obtain ⟨j, q, c, h1, h2, h3, h4⟩ := walks_get p up (i + 1) ks x h
      exact ⟨j + 1, q, c, by rw [h1, show i + 1 + j = i + (j + 1) from by omega], by simpa using h2, h3, h4⟩
end
mutual
theorem walk_size (p : List Nat) (up : Bool) : ∀ (k : Kd), ∀ x ∈ walk p up k, x.2.1.size ≤ k.size
  | .mk l ks, x, hx => by
    unfold walk at hx
    rcases List.mem_cons.mp hx with h | h
    · subst h; exact Nat.le_refl _
    · have := walks_size p (up != l.isT) 0 ks x h
      rw [Kd.size]
      omega
theorem walks_size (p : List Nat) (up : Bool) : ∀ (i : Nat) (ks : List Kd), ∀ x ∈ walks p up i ks, x.2.1.size ≤ Kd.sizes ks
  | _, [], x, hx => by unfold walks at hx; cases hx
  | i, k :: ks, x, hx => by
    unfold walks at hx
    rw [Kd.sizes]
    rcases List.mem_append.mp hx with h | h
    · have := walk_size (p ++ [i]) up k x h
      omega
    · have := walks_size p up (i + 1) ks x h
      omega
end
noncomputable def bodyH : SS := (qSeq (qIf (bNot (sTst (sCall F__law_same [] (sCons (sCall F_node_at [] (sCons (sVar 0) (sCons (sVar 2) sNil))) (sCons (sVar 3) sNil))))) (qRet (sC (.bl false))) qNil) (qIf (c2 (inB id) (sIx (sVar 3) (sC (.int 0))) (sV (sTup (sCons (sC (.str "table")) (sCons (sC (.str "choice")) (sCons (sC (.str "list")) sNil)))))) (qSeq (qSet 5 (sCall F__law_line [] (sCons (sVar 3) (sCons (sVar 4) sNil)))) (qIf (bNot (sTst (sCall F__law_same [] (sCons (sF (sLst (sCons (sCall F_branches_of [] (sCons (sVar 0) (sCons (sVar 2) sNil))) (sCons (sCall F_line_of [] (sCons (sVar 0) (sCons (sVar 2) sNil))) sNil)))) (sCons (sF (sLst (sCons (s1 lenD (sV (sVar 5))) (sCons (sVar 5) sNil)))) sNil))))) (qRet (sC (.bl false))) qNil)) qNil))
theorem sort_in {k : Kd} (h : k.ok) : (decide (k.lab.sort = "table") || (decide (k.lab.sort = "choice") || decide (k.lab.sort = "list"))) = decide (k.lab.branches ≠ 0) := by
  obtain ⟨hf, hg, e⟩ := ok_lab h
  obtain ⟨l, ks⟩ := k
  cases l with
  | table es =>
    have : es ≠ [] := hg.1
    have : es.length ≠ 0 := fun z => this (List.length_eq_zero_iff.mp z)
    simp [Kd.lab, Lab.sort, Lab.branches, this]
  | choice es =>
    have : es ≠ [] := hg.1
    have : es.length ≠ 0 := fun z => this (List.length_eq_zero_iff.mp z)
    simp [Kd.lab, Lab.sort, Lab.branches, this]
  | list a b s => simp [Kd.lab, Lab.sort, Lab.branches]
  | row => simp [Kd.lab, Lab.sort, Lab.branches, ofString_inj]
  | turned => simp [Kd.lab, Lab.sort, Lab.branches, ofString_inj]
theorem pl_line {l : Lab} {up : Bool} : pls (l.line up) := by
  have h : ∀ n : Nat, pls (rgL (n : Int)) := fun n => (pls_iff _).mpr fun x hx => by
    unfold rgL at hx
    obtain ⟨i, _, rfl⟩ := List.mem_map.mp hx
    unfold pl; trivial
  cases l with
  | list a b s => unfold Lab.line; simp only; split <;> simp [pls, pl]
  | _ =>
    unfold Lab.line
    cases up
    · simp only [Bool.false_eq_true, if_false]
      exact (pls_iff _).mpr fun x hx => (pls_iff _).mp (h _) x (List.mem_reverse.mp hx)
    · simp only [if_true]
      exact h _
theorem szs_lineE (xs : List D) (h : ∀ x ∈ xs, ∃ i, x = .int i) : szs xs = xs.length := by
  induction xs with
  | nil => rfl
  | cons x xs ih =>
    obtain ⟨i, rfl⟩ := h x List.mem_cons_self
    rw [szs_cons, ih (fun y hy => h y (List.mem_cons_of_mem _ hy)), List.length_cons, sz]
    omega
theorem line_int {l : Lab} {up : Bool} : ∀ x ∈ l.line up, ∃ i, x = .int i := by
  have h : ∀ n : Nat, ∀ x ∈ rgL (n : Int), ∃ i, x = .int i := fun n x hx => by
    unfold rgL at hx
    obtain ⟨i, _, rfl⟩ := List.mem_map.mp hx
    exact ⟨_, rfl⟩
  cases l with
  | list a b s =>
    intro x hx
    unfold Lab.line at hx
    simp only at hx
    split at hx <;> (simp at hx; rcases hx with rfl | rfl <;> exact ⟨_, rfl⟩)
  | _ =>
    intro x hx
    unfold Lab.line at hx
    cases up
    · simp only [Bool.false_eq_true, if_false] at hx
      exact h _ x (List.mem_reverse.mp hx)
    · simp only [if_true] at hx
      exact h _ x hx
theorem f_hold {k : Kd} {st : Sto} (h : k.fine) : F__law_nodes_hold [k.D, k.D] st = .ok (.val (.bl true)) st := by
  obtain ⟨ho, hz, _, _⟩ := id h
  have e1 := f_lwalk (st := st) ho.wf (by omega)
  have hall := walk_all [] true k ho
  obtain ⟨ρ', st', e2, hI⟩ := for_inv1 (step := stepT (.tp [(.nm 2), (.nm 3), (.nm 4)]) bodyH) (fun ρ st' => st' = st ∧ ∃ t2 t3 t4 t5, ρ = [some (.val k.D), some (.val k.D), t2, t3, t4, t5]) ((walk [] true k).map litemD)
    [some (.val k.D), some (.val k.D), none, none, none, none] st ⟨rfl, none, none, none, none, rfl⟩ (fun d ρ st' hd hI => by
      obtain ⟨rfl, t2, t3, t4, t5, rfl⟩ := hI
      obtain ⟨x, hx, rfl⟩ := List.mem_map.mp hd
      have hxo := hall x hx
      obtain ⟨q, g1, g2, g3⟩ := walk_get [] true k x hx
      rw [List.nil_append] at g1
      rw [← g1] at g2 g3
      have hxf : F__law_same [x.2.1.D, x.2.1.D] st' = .ok (.val (.bl true)) st' := f_same (kd_pl _) (by
        have h1 := kd_sz _ hxo
        have h2 := walk_size [] true k x hx
        omega)
      have bind : stepT (.tp [(.nm 2), (.nm 3), (.nm 4)]) bodyH (litemD x) [some (.val k.D), some (.val k.D), t2, t3, t4, t5] st' = bodyH [some (.val k.D), some (.val k.D), some (.val (pathD x.1)), some (.val x.2.1.D), some (.val (.bl x.2.2)), t5] st' := by
        simp [stepT_eq, litemD]
      rw [bind]
      unfold bodyH
      have en := f_node_at (st := st') h g2
      rw [seq_go (ρ1 := [some (.val k.D), some (.val k.D), some (.val (pathD x.1)), some (.val x.2.1.D), some (.val (.bl x.2.2)), t5]) (st1 := st') (by simp [en, hxf])]
      by_cases hb : x.2.1.lab.branches = 0
      · rw [if_f (st1 := st') (by simp [kd_ix0, kd_deref, smallLine, in_tup3, sort_in hxo, hb])]
        simp
      · have el := f_lline (up := x.2.2) (st := st') hxo hb
        have eb := f_branches (st := st') h g2 hb
        have eo := f_line_of (st := st') h g2 hb
        rw [g3] at eo
        have es : F__law_same [.lst [.int x.2.1.lab.branches, .tup (x.2.1.lab.line x.2.2)], .lst [.int x.2.1.lab.branches, .tup (x.2.1.lab.line x.2.2)]] st' = .ok (.val (.bl true)) st' := f_same (by simp [pl, pls, pl_line]) (by
          have := branches_le hxo
          have h2 := szs_lineE _ (line_int (l := x.2.1.lab) (up := x.2.2))
          rw [line_len hxo] at h2
          simp [sz, szs, h2]
          omega)
        rw [if_t (st1 := st') (by simp [kd_ix0, kd_deref, smallLine, in_tup3, sort_in hxo, hb])]
        simp [el, eb, eo, line_len hxo, smallLine, es])
  obtain ⟨rfl, t2, t3, t4, t5, rfl⟩ := hI
  unfold bodyH at e2
  have b : B__law_nodes_hold [some (.val k.D), some (.val k.D), none, none, none, none] st' = .ok (.rt (.val (.bl true))) st' := by
    unfold B__law_nodes_hold
    rw [seq_go (for_go (by simp [e1]) e2)]
    simp
  unfold F__law_nodes_hold
  simp [b]
end KP
set_option Elab.async false
set_option linter.all false
set_option maxRecDepth 100000
set_option maxHeartbeats 1000000
set_option autoImplicit false
/-! QI: the plain law of k53: depth; _law_shows. -/
namespace KP
open PySem PySem.Spec PyProof.Rows L2 Ds KG
/-! ### how many lists stand around a node -/
/-- how many of L begin p -/
def cnt (L : List (List Nat)) (p : List Nat) : Nat := (L.filter fun l => decide (p.take l.length = l)).length
def listP (x : Item) : Option (List Nat) := if x.2.1.lab.isL then some x.1 else none
theorem cnt_app (L M : List (List Nat)) (p : List Nat) : cnt (L ++ M) p = cnt L p + cnt M p := by simp [cnt]
theorem cnt_zero {L : List (List Nat)} {p : List Nat} (h : ∀ l ∈ L, p.take l.length ≠ l) : cnt L p = 0 := by
  unfold cnt
  rw [List.length_eq_zero_iff, List.filter_eq_nil_iff]
  intro l hl z
  exact h l hl (of_decide_eq_true z)
mutual
def dep : Kd → Nat
  | .mk l ks => l.isL.toNat + deps ks
def deps : List Kd → Nat
  | [] => 0
  | k :: ks => max (dep k) (deps ks)
end
mutual
theorem deepS_dep (n : Nat) : ∀ k : Kd, deepS n k = if dep k = 0 then 0 else n + dep k
  | .mk l ks => by
    have h := deepSs_deps (n + l.isL.toNat) ks
    unfold deepS dep
    rw [h]
    cases l.isL with
    | true =>
      simp only [Bool.toNat_true, if_true]
      split <;> split <;> omega
    | false =>
      simp only [Bool.toNat_false, Bool.false_eq_true, if_false]
      split <;> split <;> omega
theorem deepSs_deps (n : Nat) : ∀ ks : List Kd, deepSs n ks = if deps ks = 0 then 0 else n + deps ks
  | [] => by simp [deepSs, deps]
  | k :: ks => by
    have h1 := deepS_dep n k
    have h2 := deepSs_deps n ks
    unfold deepSs deps
    rw [h1, h2]
    split <;> split <;> split <;> omega
end
theorem deepS_zero (k : Kd) : deepS 0 k = dep k := by
  rw [deepS_dep]
  split <;> omega
/-- the most lists around a node of xs, by the lists L -/
def most (L : List (List Nat)) : List Item → Nat
  | [] => 0
  | x :: xs => max (cnt L x.1) (most L xs)
theorem most_app (L : List (List Nat)) : ∀ xs ys : List Item, most L (xs ++ ys) = max (most L xs) (most L ys)
  | [], ys => by simp [most]
  | x :: xs, ys => by
    have := most_app L xs ys
    simp only [List.cons_append, most]
    omega
theorem most_congr {L M : List (List Nat)} {c : Nat} : ∀ xs : List Item, (∀ x ∈ xs, cnt L x.1 = c + cnt M x.1) → xs ≠ [] → most L xs = c + most M xs
  | [], _, h => absurd rfl h
  | [x], h, _ => by
    have := h x List.mem_cons_self
    simp only [most]
    omega
  | x :: y :: xs, h, _ => by
    have h1 := h x List.mem_cons_self
    have h2 := most_congr (y :: xs) (fun z hz => h z (List.mem_cons_of_mem _ hz)) (by simp)
    simp only [most] at *
    omega
theorem take_app (p q : List Nat) (l : List Nat) : (p ++ q).take (p ++ l).length = p ++ q.take l.length := by
  rw [List.length_append, List.take_length_add_append]
theorem cnt_one (p : List Nat) (b : Bool) (q : List Nat) : cnt (if b then [p] else []) (p ++ q) = b.toNat := by
  cases b with
  | false => rfl
  | true => simp [cnt]
theorem walk_ne (p : List Nat) (up : Bool) (k : Kd) : walk p up k ≠ [] := by
  obtain ⟨l, ks⟩ := k
  unfold walk
  simp
theorem most_nil (xs : List Item) : most [] xs = 0 := by
  induction xs with
  | nil => rfl
  | cons x xs ih => simp [most, ih, cnt]
mutual
theorem most_walk (p : List Nat) (up : Bool) : ∀ k : Kd, most ((walk p up k).filterMap listP) (walk p up k) = dep k
  | .mk l ks => by
    have h := most_walks p (up != l.isT) 0 ks
    have el : (walk p up (.mk l ks)).filterMap listP = (if l.isL then [p] else []) ++ (walks p (up != l.isT) 0 ks).filterMap listP := by
      have e0 : listP (p, .mk l ks, up) = if l.isL then some p else none := rfl
      rw [walk, List.filterMap_cons, e0]
      cases l.isL <;> rfl
    have e1 : ∀ x ∈ walk p up (.mk l ks), cnt ((walk p up (.mk l ks)).filterMap listP) x.1 = l.isL.toNat + cnt ((walks p (up != l.isT) 0 ks).filterMap listP) x.1 := fun x hx => by
      obtain ⟨q, hq, _⟩ := walk_get p up (.mk l ks) x hx
      rw [el, cnt_app, hq, cnt_one]
    rw [most_congr _ e1 (walk_ne p up _), dep, walk, most]
    have e2 : cnt ((walks p (up != l.isT) 0 ks).filterMap listP) p = 0 := cnt_zero fun m hm z => by
      obtain ⟨x, hx, hxm⟩ := List.mem_filterMap.mp hm
      obtain ⟨j, q, c, h1, _⟩ := walks_get p (up != l.isT) 0 ks x hx
      have : m = x.1 := by
        unfold listP at hxm
        split at hxm
        · cases hxm; rfl
        · cases hxm
      rw [this, h1] at z
      have := congrArg List.length z
      rw [List.length_take, List.length_append, List.length_cons] at this
      omega
    show l.isL.toNat + max (cnt _ p) _ = _
    rw [e2, Nat.zero_max, h]
theorem most_walks (p : List Nat) (up : Bool) : ∀ (i : Nat) (ks : List Kd), most ((walks p up i ks).filterMap listP) (walks p up i ks) = deps ks
  | i, [] => by simp [walks, most, deps]
  | i, k :: ks => by
    have h1 := most_walk (p ++ [i]) up k
    have h2 := most_walks p up (i + 1) ks
    rw [walks, List.filterMap_append, most_app, deps]
    have a1 : ∀ x ∈ walk (p ++ [i]) up k, cnt ((walk (p ++ [i]) up k).filterMap listP ++ (walks p up (i + 1) ks).filterMap listP) x.1 = 0 + cnt ((walk (p ++ [i]) up k).filterMap listP) x.1 := fun x hx => by
      obtain ⟨q, hq, _⟩ := walk_get (p ++ [i]) up k x hx
      rw [cnt_app, Nat.zero_add]
      have : cnt ((walks p up (i + 1) ks).filterMap listP) x.1 = 0 := cnt_zero fun m hm z => by
        obtain ⟨y, hy, hym⟩ := List.mem_filterMap.mp hm
        obtain ⟨j, r, c, h1, _⟩ := walks_get p up (i + 1) ks y hy
        have em : m = y.1 := by
          unfold listP at hym
          split at hym
          · cases hym; rfl
          · cases hym
        rw [em, h1, hq, app_cons, take_app] at z
        have z2 := List.append_cancel_left z
        rw [List.length_cons, List.take_succ_cons] at z2
        have := (List.cons.inj z2).1
        omega
      rw [this, Nat.add_zero]
    have a2 : ∀ x ∈ walks p up (i + 1) ks, cnt ((walk (p ++ [i]) up k).filterMap listP ++ (walks p up (i + 1) ks).filterMap listP) x.1 = 0 + cnt ((walks p up (i + 1) ks).filterMap listP) x.1 := fun x hx => by
      obtain ⟨j, r, c, h1, _⟩ := walks_get p up (i + 1) ks x hx
      rw [cnt_app]
      have : cnt ((walk (p ++ [i]) up k).filterMap listP) x.1 = 0 := cnt_zero fun m hm z => by
        obtain ⟨y, hy, hym⟩ := List.mem_filterMap.mp hm
        obtain ⟨q, hq, _⟩ := walk_get (p ++ [i]) up k y hy
        have em : m = y.1 := by
          unfold listP at hym
          split at hym
          · cases hym; rfl
          · cases hym
        rw [em, h1, hq, app_cons, take_app] at z
        have z2 := List.append_cancel_left z
        rw [List.length_cons, List.take_succ_cons] at z2
        have := (List.cons.inj z2).1
        omega
      rw [this]
    rw [most_congr _ a1 (walk_ne _ _ _), h1, Nat.zero_add]
    cases ks with
    | nil => simp [walks, most, deps]
    | cons k2 ks2 =>
      rw [most_congr _ a2 (by rw [walks]; intro z; exact walk_ne _ _ _ (List.append_eq_nil_iff.mp z).1), h2, Nat.zero_add]
end
/-! ### lengths of paths -/
mutual
theorem walk_plen (p : List Nat) (up : Bool) : ∀ (k : Kd), ∀ x ∈ walk p up k, x.1.length + x.2.1.size ≤ p.length + k.size
  | .mk l ks, x, hx => by
    unfold walk at hx
    rcases List.mem_cons.mp hx with h | h
    · subst h; exact Nat.le_refl _
    · have := walks_plen p (up != l.isT) 0 ks x h
      rw [Kd.size]
      omega
theorem walks_plen (p : List Nat) (up : Bool) : ∀ (i : Nat) (ks : List Kd), ∀ x ∈ walks p up i ks, x.1.length + x.2.1.size ≤ p.length + 1 + Kd.sizes ks
  | _, [], x, hx => by unfold walks at hx; cases hx
  | i, k :: ks, x, hx => by
    unfold walks at hx
    rw [Kd.sizes]
    rcases List.mem_append.mp hx with h | h
    · have := walk_plen (p ++ [i]) up k x h
      rw [List.length_append, List.length_singleton] at this
      omega
    · have := walks_plen p up (i + 1) ks x h
      omega
end
theorem walk_path {k : Kd} {up : Bool} {x : Item} (h : x ∈ walk [] up k) : x.1.length ≤ k.size := by
  have := walk_plen [] up k x h
  rw [List.length_nil] at this
  omega
/-! ### letters -/
theorem str_app (a b : Str) : (a ++ b).length = a.length + b.length := by
  show (a.cps ++ b.cps).size = _
  rw [Array.size_append]; rfl
theorem strs_len {ws : List Str} : (Txt.join (Str.ofString "") ws).length = (ws.map Str.length).sum := by
  have e0 : (Str.ofString "").length = 0 := by decide +kernel
  unfold Txt.join
  rw [StrLaws.glued_eq_join]
  induction ws with
  | nil => rfl
  | cons w ws ih =>
    cases ws with
    | nil => simp [Str.join]
    | cons v vs =>
      have : Str.join (Str.ofString "") (w :: v :: vs) = w ++ Str.ofString "" ++ Str.join (Str.ofString "") (v :: vs) := rfl
      rw [this, str_app, str_app, ih, e0]
      simp
mutual
theorem walk_letters (p : List Nat) (up : Bool) : ∀ k : Kd, ((walk p up k).map fun x => lenSum x.2.1.lab.words).sum = k.letters
  | .mk l ks => by
    rw [walk, List.map_cons, List.sum_cons, walks_letters p (up != l.isT) 0 ks, Kd.letters]; rfl
theorem walks_letters (p : List Nat) (up : Bool) : ∀ (i : Nat) (ks : List Kd), ((walks p up i ks).map fun x => lenSum x.2.1.lab.words).sum = Kd.letterss ks
  | _, [] => by unfold walks Kd.letterss; rfl
  | i, k :: ks => by
    rw [walks, List.map_append, List.sum_append, walk_letters (p ++ [i]) up k, walks_letters p up (i + 1) ks, Kd.letterss]
end
theorem flat_letters (xs : List Item) : (((xs.flatMap fun x => x.2.1.lab.words).map Str.length).sum) = (xs.map fun x => lenSum x.2.1.lab.words).sum := by
  induction xs with
  | nil => rfl
  | cons x xs ih => simp only [List.flatMap_cons, List.map_append, List.sum_append, List.map_cons, List.sum_cons, ih]; rfl
end KP
set_option Elab.async false
set_option linter.all false
set_option maxRecDepth 100000
set_option maxHeartbeats 1000000
set_option autoImplicit false
/-! QJ: the plain law of k53: _law_shows. -/
namespace KP
open PySem PySem.Spec PyProof.Rows L2 Ds KG
theorem cut_takeI {α : Type} {xs : List α} {n : Nat} : cutL xs none (some (n : Int)) = xs.take n := by
  by_cases h : n ≤ xs.length
  · exact cut_take h
  · unfold cutL
    rw [HT.sIx_nat, HT.sIx_none, List.drop_zero, Nat.sub_zero, Nat.min_eq_right (by omega), List.take_of_length_le (Nat.le_refl _), List.take_of_length_le (by omega)]
theorem slice_path {p : List Nat} {n : Nat} {st : Sto} : sliceD (pathD p) none (some (n : Int)) st = .ok (pathD (p.take n)) st := by
  show Out.ok (D.tup (cutL _ none (some (n : Int)))) st = _
  rw [cut_takeI, ← List.map_take]
  rfl
theorem len_path {p : List Nat} {st : Sto} : lenD (pathD p) st = .ok (.int p.length) st := by
  unfold pathD
  rw [lenD_tup, List.length_map]
theorem deref_path {p : List Nat} {st : Sto} : derefD (pathD p) st = .ok (pathD p) st := by unfold pathD; simp
theorem maxD_nat {a b : Nat} {st : Sto} : maxD (.int a) (.int b) st = .ok (.int (max a b : Nat)) st := by
  show Out.ok (D.int (if (b : Int) > (a : Int) then (b : Int) else a)) st = _
  congr 2
  split <;> omega
theorem filterMap_if {α : Type} {f : α → Bool} {g : α → D} (xs : List α) : xs.filterMap (fun x => if f x then some (g x) else none) = (xs.filter f).map g := by
  induction xs with
  | nil => rfl
  | cons x xs ih =>
    rw [List.filterMap_cons, List.filter_cons]
    cases f x <;> simp [ih]
noncomputable def bodyW : SS := (qSeq (qM 3 kExt (sCons (sF (sLc (sIt (sIx (sVar 6) (sC (.int 3)))) (.nm 7) bYes (sTup (sCons (sIx (sVar 6) (sC (.int 0))) (sCons (sVar 7) sNil))) [7])) sNil)) (qSet 4 (s2 maxD (sVar 4) (s1 lenD (sV (sF (sLc (sIt (sVar 5)) (.nm 8) (c2 eqD (sSl (sIx (sVar 6) (sC (.int 0))) pNone (pSome (s1 lenD (sV (sVar 8))))) (sV (sVar 8))) (sVar 8) [8])))))))
theorem turn_shows {x : Item} {T : List D} {m : Nat} {L : List (List Nat)} {s0 u1 s2 s6 s7 s8 s9 : Option Sl} {st : Sto} (hx : x.2.1.ok) (hT : T.length ≤ 100000) (hL : L.length ≤ 1000) :
    ∃ t6, stepT (.nm 6) bodyW (listD x) [s0, u1, s2, some (.own T), some (.val (.int m)), some (.val (.lst (L.map pathD))), s6, s7, s8, s9] st = .ok (.nx [s0, u1, s2, some (.own (T ++ wordsOf x)), some (.val (.int (max m (cnt L x.1) : Nat))), some (.val (.lst (L.map pathD))), t6, s7, s8, s9]) st := by
  refine ⟨some (.val (listD x)), ?_⟩
  have hw := words_len hx
  have e1 : lcL (stepC (.nm 7) bYes (sTup (sCons (sIx (sVar 6) (sC (.int 0))) (sCons (sVar 7) sNil))) [s0, u1, s2, some (.own T), some (.val (.int m)), some (.val (.lst (L.map pathD))), some (.val (listD x)), none, s8, s9]) (x.2.1.lab.words.map .str) [] st = .ok (wordsOf x) st := by
    refine lc_mp _ (fun w _ => ?_) (by omega)
    simp [stepC_eq, listD, smallLine]
  have e2 : ∀ T', lcL (stepC (.nm 8) (c2 eqD (sSl (sIx (sVar 6) (sC (.int 0))) pNone (pSome (s1 lenD (sV (sVar 8))))) (sV (sVar 8))) (sVar 8) [s0, u1, s2, some (.own T'), some (.val (.int m)), some (.val (.lst (L.map pathD))), some (.val (listD x)), s7, none, s9]) (L.map pathD) [] st = .ok ((L.filter fun l => decide (x.1.take l.length = l)).map pathD) st := fun T' => by
    have h := lc_on (f := pathD) (step := stepC (.nm 8) (c2 eqD (sSl (sIx (sVar 6) (sC (.int 0))) pNone (pSome (s1 lenD (sV (sVar 8))))) (sV (sVar 8))) (sVar 8) [s0, u1, s2, some (.own T'), some (.val (.int m)), some (.val (.lst (L.map pathD))), some (.val (listD x)), s7, none, s9]) (g := fun l => if decide (x.1.take l.length = l) then some (pathD l) else none) (st := st) L [] (fun l _ => by
      have el : stepC (.nm 8) (c2 eqD (sSl (sIx (sVar 6) (sC (.int 0))) pNone (pSome (s1 lenD (sV (sVar 8))))) (sV (sVar 8))) (sVar 8) [s0, u1, s2, some (.own T'), some (.val (.int m)), some (.val (.lst (L.map pathD))), some (.val (listD x)), s7, none, s9] (pathD l) st = shield (turnC (c2 eqD (sSl (sIx (sVar 6) (sC (.int 0))) pNone (pSome (s1 lenD (sV (sVar 8))))) (sV (sVar 8))) (sVar 8) [s0, u1, s2, some (.own T'), some (.val (.int m)), some (.val (.lst (L.map pathD))), some (.val (listD x)), s7, some (.val (pathD l)), s9] st) := by simp [stepC_eq]
      rw [el]
      by_cases hc : x.1.take l.length = l
      · simp [listD, slice_path, len_path, deref_path, eqD_path, hc]
      · simp [listD, slice_path, len_path, deref_path, eqD_path, hc]) (by rw [List.length_nil]; omega)
    rw [h, List.nil_append, filterMap_if]
  have hb : (Tgt.nm 6).bind (listD x) [s0, u1, s2, some (.own T), some (.val (.int m)), some (.val (.lst (L.map pathD))), s6, s7, s8, s9] = some [s0, u1, s2, some (.own T), some (.val (.int m)), some (.val (.lst (L.map pathD))), some (.val (listD x)), s7, s8, s9] := by simp
  have z : T.length + (wordsOf x).length ≤ sizeLine := by
    have := wordsOf_len hx
    rw [sizeLine_eq]
    omega
  rw [stepT_eq, hb]
  show bodyW _ st = _
  unfold bodyW
  rw [seq_go (ρ1 := [s0, u1, s2, some (.own (T ++ wordsOf x)), some (.val (.int m)), some (.val (.lst (L.map pathD))), some (.val (listD x)), s7, s8, s9]) (st1 := st) (by
    have ei : idxD (listD x) (.int 3) st = .ok (.lst (x.2.1.lab.words.map .str)) st := by simp [listD]
    have ed : derefD (listD x) st = .ok (listD x) st := by simp [listD]
    simp [ei, ed, e1, kExt, z])]
  simp [e2, cnt, maxD_nat]
theorem lists_len {k : Kd} : ((walk [] true k).filterMap listP).length ≤ k.size := by
  have := List.length_filterMap_le listP (walk [] true k)
  rw [walk_len] at this
  exact this
theorem pl_rowD (x : Item) : pl (rowD x) := by
  have h : pl (dirD x.2.2) := by unfold dirD; split <;> (unfold pl; trivial)
  simp [rowD, pl, pls, pl_path, h]
theorem sz_rowD (x : Item) : sz (rowD x) = 4 + x.1.length := by
  have h : sz (dirD x.2.2) = 1 := by unfold dirD; split <;> rfl
  simp [rowD, sz, szs, sz_path, h]
  omega
theorem pls_map {α : Type} {f : α → D} {xs : List α} (h : ∀ x ∈ xs, pl (f x)) : pls (xs.map f) := (pls_iff _).mpr fun y hy => by
  obtain ⟨x, hx, rfl⟩ := List.mem_map.mp hy
  exact h x hx
theorem szs_map {α : Type} {f : α → D} {m : Nat} {xs : List α} (h : ∀ x ∈ xs, sz (f x) ≤ m) : szs (xs.map f) ≤ m * xs.length := by
  have := szs_le (m := m) (xs.map f) fun y hy => by
    obtain ⟨x, hx, rfl⟩ := List.mem_map.mp hy
    exact h x hx
  rwa [List.length_map] at this
theorem place_branch {k : Kd} (h : k.ok) : k.lab.place = decide (2 ≤ k.lab.branches) := by
  obtain ⟨l, ks⟩ := k
  cases l with
  | list a b s => rfl
  | row => rfl
  | turned => rfl
  | table es =>
    show (false || decide (1 < (es.map (·.2)).length)) = decide (2 ≤ es.length)
    rw [List.length_map, Bool.false_or]; rfl
  | choice es =>
    show (false || decide (1 < (es.map (·.2)).length)) = decide (2 ≤ es.length)
    rw [List.length_map, Bool.false_or]; rfl
theorem most_take (L : List (List Nat)) (xs : List Item) (i : Nat) (x : Item) (h : xs[i]? = some x) : most L (xs.take (i + 1)) = max (most L (xs.take i)) (cnt L x.1) := by
  rw [List.take_add_one, h, most_app]
  simp [most]
theorem f_shows {k : Kd} {st : Sto} (h : k.fine) : F__law_shows [k.D, .lst ((walk [] true k).map listD)] st = .ok (.val (.bl true)) st := by
  obtain ⟨ho, hz, hle, hde⟩ := id h
  have hall := walk_all [] true k ho
  have hlen := walk_len [] true k
  have hL := lists_len (k := k)
  have hfz : ((walk [] true k).flatMap wordsOf).length ≤ 240 := by
    have := flat_len (f := wordsOf) (m := 10) (walk [] true k) fun x hx => wordsOf_len (hall x hx)
    omega
  generalize hR : walk [] true k = R at *
  have hpl : ∀ x ∈ R, x.1.length ≤ 24 := fun x hx => by
    have := walk_path (k := k) (up := true) (x := x) (by rw [hR]; exact hx)
    omega
  -- the first rows
  have e1 : ∀ s1 : Option Sl, lcL (stepC (.nm 6) bYes (sTup (sCons (sIx (sVar 6) (sC (.int 0))) (sCons (sIx (sVar 6) (sC (.int 1))) (sCons (sIf (sTst (sIx (sVar 6) (sC (.int 2)))) (sC (.str "up")) (sC (.str "down"))) sNil)))) [some (.val k.D), s1, none, none, none, none, none, none, none, none]) (R.map listD) [] st = .ok (R.map rowD) st := fun s1 => by
    refine lc_mp _ (fun x hx => ?_) (by omega)
    have : ∀ b : Bool, sifK (sC (.str "up")) (sC (.str "down")) [some (.val k.D), s1, none, none, none, none, some (.val (listD x)), none, none, none] (.ok b st) = .ok (dirD b) st := fun b => by cases b <;> simp [dirD]
    have ei0 : idxD (listD x) (.int 0) st = .ok (pathD x.1) st := by simp [listD]
    have ei1 : idxD (listD x) (.int 1) st = .ok (.str x.2.1.lab.sort) st := by simp [listD]
    have ei2 : idxD (listD x) (.int 2) st = .ok (.bl x.2.2) st := by simp [listD]
    have ed : derefD (listD x) st = .ok (listD x) st := by simp [listD]
    simp [stepC_eq, ei0, ei1, ei2, ed, this, smallLine, rowD]
  have en := f_nodes (st := st) h
  rw [hR] at en
  have ec := f_check (st := st) h
  have es1 : F__law_same [.lst [.tup (R.map rowD), .non], .lst [.tup (R.map rowD), .non]] st = .ok (.val (.bl true)) st := f_same (by simp [pl, pls, pls_map (fun x _ => pl_rowD x)]) (by
    have := szs_map (f := rowD) (m := 28) (xs := R) fun x hx => by
      rw [sz_rowD]
      have := hpl x hx
      omega
    simp [sz, szs]
    omega)
  -- the lists
  have e2 : ∀ s1 s2 s3 s4 : Option Sl, lcL (stepC (.nm 6) (c2 eqD (sIx (sVar 6) (sC (.int 1))) (sV (sC (.str "list")))) (sIx (sVar 6) (sC (.int 0))) [some (.val k.D), s1, s2, s3, s4, none, none, none, none, none]) (R.map listD) [] st = .ok ((R.filterMap listP).map pathD) st := fun s1 s2 s3 s4 => by
    rw [lc_on (g := fun x => (listP x).map pathD) R [] (fun x hx => ?_) (by rw [List.length_nil]; omega), List.map_filterMap, List.nil_append]
    have ei0 : idxD (listD x) (.int 0) st = .ok (pathD x.1) st := by simp [listD]
    have ei1 : idxD (listD x) (.int 1) st = .ok (.str x.2.1.lab.sort) st := by simp [listD]
    have ed : derefD (listD x) st = .ok (listD x) st := by simp [listD]
    cases hL : x.2.1.lab.isL <;> simp [stepC_eq, ei0, ei1, ed, eqD_str, sort_list, hL, listP]
  -- the loop
  generalize hLL : R.filterMap listP = L at *
  obtain ⟨ρ', st', e3, hI⟩ := for_inv (step := stepT (.nm 6) bodyW) (fun i ρ st' => st' = st ∧ ∃ t6, ρ = [some (.val k.D), some (.val (.lst (R.map listD))), some (.val (.tup (R.map rowD))), some (.own ((R.take i).flatMap wordsOf)), some (.val (.int (most L (R.take i) : Nat))), some (.val (.lst (L.map pathD))), t6, none, none, none]) (R.map listD) 0
    [some (.val k.D), some (.val (.lst (R.map listD))), some (.val (.tup (R.map rowD))), some (.own []), some (.val (.int 0)), some (.val (.lst (L.map pathD))), none, none, none, none] st ⟨rfl, none, rfl⟩ (fun i d ρ st' hi hI => by
      obtain ⟨rfl, t6, rfl⟩ := hI
      rw [List.getElem?_map] at hi
      cases hx : R[i]? with
      | none => rw [hx] at hi; cases hi
      | some x =>
        rw [hx] at hi
        cases hi
        have hxm := List.mem_of_getElem? hx
        have ht : ((R.take i).flatMap wordsOf).length ≤ 10 * (R.take i).length := flat_len _ fun y hy => wordsOf_len (hall y (List.mem_of_mem_take hy))
        rw [List.length_take] at ht
        obtain ⟨u6, e⟩ := turn_shows (x := x) (T := (R.take i).flatMap wordsOf) (m := most L (R.take i)) (L := L) (s0 := some (.val k.D)) (u1 := some (.val (.lst (R.map listD)))) (s2 := some (.val (.tup (R.map rowD)))) (s6 := t6) (s7 := none) (s8 := none) (s9 := none) (st := st') (hall x hxm) (by omega) (by omega)
        refine sat_of (by rw [Nat.zero_add]; exact e) ?_
        refine ⟨rfl, u6, ?_⟩
        have a1 : (R.take (0 + i + 1)).flatMap wordsOf = (R.take i).flatMap wordsOf ++ wordsOf x := by
          rw [Nat.zero_add, List.take_add_one, hx, List.flatMap_append]
          simp
        rw [a1, Nat.zero_add, most_take L R i x hx])
  obtain ⟨rfl, t6, rfl⟩ := hI
  rw [Nat.zero_add, List.length_map, List.take_length] at e3
  have em : most L R = deepS 0 k := by
    rw [deepS_zero, ← hLL, ← hR]
    exact most_walk [] true k
  rw [em] at e3
  -- words and places
  have ew := f_words_of (st := st') h
  have ep := f_places (st := st') h
  rw [hR] at ew ep
  have e4 : ∀ s1 s2 s3 s4 s5 s7 s8 s9 : Option Sl, lcL (stepC (.nm 6) (sTst (sIx (sVar 6) (sC (.int 4)))) (sIx (sVar 6) (sC (.int 0))) [some (.val k.D), s1, s2, s3, s4, s5, none, s7, s8, s9]) (R.map listD) [] st' = .ok (R.filterMap placeOf) st' := fun s1 s2 s3 s4 s5 s7 s8 s9 => by
    refine lc_on R [] (fun x hx => ?_) (by rw [List.length_nil]; omega)
    have ei0 : idxD (listD x) (.int 0) st' = .ok (pathD x.1) st' := by simp [listD]
    have ei4 : idxD (listD x) (.int 4) st' = .ok (.bl x.2.1.lab.place) st' := by simp [listD]
    have ed : derefD (listD x) st' = .ok (listD x) st' := by simp [listD]
    rw [place_branch (hall x hx)] at ei4
    by_cases hb : 2 ≤ x.2.1.lab.branches <;> simp [stepC_eq, ei0, ei4, ed, hb, placeOf]
  have plw : pls (R.flatMap wordsOf) := (pls_iff _).mpr fun y hy => by
    obtain ⟨x, hx, hy⟩ := List.mem_flatMap.mp hy
    obtain ⟨w, _, rfl⟩ := List.mem_map.mp hy
    simp [pl, pls, pl_path]
  have szw : szs (R.flatMap wordsOf) ≤ 27 * (R.flatMap wordsOf).length := szs_le _ fun y hy => by
    obtain ⟨x, hx, hy⟩ := List.mem_flatMap.mp hy
    obtain ⟨w, _, rfl⟩ := List.mem_map.mp hy
    have := hpl x hx
    simp [sz, szs, sz_path]
    omega
  have plp : ∀ y ∈ R.filterMap placeOf, ∃ x ∈ R, y = pathD x.1 := fun y hy => by
    obtain ⟨x, hx, hy⟩ := List.mem_filterMap.mp hy
    unfold placeOf at hy
    split at hy
    · cases hy; exact ⟨x, hx, rfl⟩
    · cases hy
  have szp : szs (R.filterMap placeOf) ≤ 25 * (R.filterMap placeOf).length := szs_le _ fun y hy => by
    obtain ⟨x, hx, rfl⟩ := plp y hy
    have := hpl x hx
    rw [sz_path]
    omega
  have lzp : (R.filterMap placeOf).length ≤ R.length := List.length_filterMap_le _ _
  have es2 : F__law_same [.lst [.tup (R.flatMap wordsOf), .tup (R.filterMap placeOf)], .lst [.tup (R.flatMap wordsOf), .tup (R.filterMap placeOf)]] st' = .ok (.val (.bl true)) st' := f_same (by
    have : pls (R.filterMap placeOf) := (pls_iff _).mpr fun y hy => by
      obtain ⟨x, hx, rfl⟩ := plp y hy
      exact pl_path _
    simp [pl, pls, plw, this]) (by
    simp [sz, szs]
    omega)
  -- letters and depth
  have e5 : ∀ s1 s2 s3 s4 s5 s6 s7 s8 : Option Sl, lcL (stepC (.nm 9) bYes (sIx (sVar 9) (sC (.int 1))) [some (.val k.D), s1, s2, s3, s4, s5, s6, s7, s8, none]) (R.flatMap wordsOf) [] st' = .ok ((R.flatMap fun x => x.2.1.lab.words).map .str) st' := fun s1 s2 s3 s4 s5 s6 s7 s8 => by
    have hm : R.flatMap wordsOf = (R.flatMap fun x => x.2.1.lab.words.map fun w => (x.1, w)).map fun q => D.tup [pathD q.1, .str q.2] := by
      rw [List.map_flatMap]
      unfold wordsOf
      simp only [List.map_map]
      rfl
    have hm2 : (R.flatMap fun x => x.2.1.lab.words) = (R.flatMap fun x => x.2.1.lab.words.map fun w => (x.1, w)).map (·.2) := by
      rw [List.map_flatMap]
      simp [Function.comp_def]
    rw [hm, hm2, List.map_map]
    refine lc_mp _ (fun q _ => ?_) ?_
    · simp [stepC_eq]
    · rw [hm, List.length_map] at hfz
      omega
  have hsum : ((R.flatMap fun x => x.2.1.lab.words).map Str.length).sum = k.letters := by
    rw [flat_letters, ← hR, walk_letters]
  have ej : joinD (Str.ofString "") (.lst ((R.flatMap fun x => x.2.1.lab.words).map .str)) st' = .ok (.str (Txt.join (Str.ofString "") (R.flatMap fun x => x.2.1.lab.words))) st' := by
    show (match strsOf _ with | some ys => _ | none => _) = _
    rw [strsOf_map]
    show (if _ then _ else _) = _
    rw [if_pos]
    have e0 : (Str.ofString "").length = 0 := by decide +kernel
    rw [e0, Nat.mul_zero, hsum]
    omega
  have el := f_letters (st := st') h
  have ed := f_depth (st := st') h
  have es3 : F__law_same [.lst [.int k.letters, .int (deepS 0 k)], .lst [.int k.letters, .int (deepS 0 k)]] st' = .ok (.val (.bl true)) st' := f_same (by simp [pl, pls]) (by simp [sz, szs])
  have ejl : lenD (.str (Txt.join (Str.ofString "") (R.flatMap fun x => x.2.1.lab.words))) st' = .ok (.int k.letters) st' := by
    rw [lenD_str (by rw [strs_len, hsum]; omega), strs_len, hsum]
  have b : B__law_shows [some (.val k.D), some (.val (.lst (R.map listD))), none, none, none, none, none, none, none, none] st' = .ok (.rt (.val (.bl true))) st' := by
    unfold bodyW at e3
    unfold B__law_shows
    rw [seq_go (ρ1 := [some (.val k.D), some (.val (.lst (R.map listD))), some (.val (.tup (R.map rowD))), none, none, none, none, none, none, none]) (st1 := st') (by simp [e1])]
    rw [seq_go (ρ1 := [some (.val k.D), some (.val (.lst (R.map listD))), some (.val (.tup (R.map rowD))), none, none, none, none, none, none, none]) (st1 := st') (by simp [en, ec, es1, smallLine])]
    rw [seq_go (ρ1 := [some (.val k.D), some (.val (.lst (R.map listD))), some (.val (.tup (R.map rowD))), some (.own []), none, none, none, none, none, none]) (st1 := st') (by simp [smallLine])]
    rw [seq_go (ρ1 := [some (.val k.D), some (.val (.lst (R.map listD))), some (.val (.tup (R.map rowD))), some (.own []), some (.val (.int 0)), none, none, none, none, none]) (st1 := st') (by simp)]
    rw [seq_go (ρ1 := [some (.val k.D), some (.val (.lst (R.map listD))), some (.val (.tup (R.map rowD))), some (.own []), some (.val (.int 0)), some (.val (.lst (L.map pathD))), none, none, none, none]) (st1 := st') (by simp [e2])]
    rw [seq_go (for_go (by simp) e3)]
    rw [seq_go (ρ1 := [some (.val k.D), some (.val (.lst (R.map listD))), some (.val (.tup (R.map rowD))), some (.own (R.flatMap wordsOf)), some (.val (.int (deepS 0 k : Nat))), some (.val (.lst (L.map pathD))), t6, none, none, none]) (st1 := st') (by simp [ew, ep, e4, es2, smallLine])]
    simp [el, ed, e5, sJoin, ej, ejl, es3, smallLine]
  unfold F__law_shows
  simp [b]
end KP
set_option Elab.async false
set_option linter.all false
set_option maxRecDepth 100000
set_option maxHeartbeats 1000000
set_option autoImplicit false
/-! QK: the plain law of k53: rows of a kind with a part put in. -/
namespace KP
open PySem PySem.Spec PyProof.Rows L2 Ds KG
def shift (P : List Nat) (d : Bool) (x : Item) : Item := (P ++ x.1, x.2.1, x.2.2 == d)
mutual
theorem walk_shift (P : List Nat) (d : Bool) (p : List Nat) (up : Bool) : ∀ k : Kd, walk (P ++ p) (up == d) k = (walk p up k).map (shift P d)
  | .mk l ks => by
    have h := walks_shift P d p (up != l.isT) 0 ks
    have e : ((up == d) != l.isT) = ((up != l.isT) == d) := by cases up <;> cases d <;> cases l.isT <;> rfl
    rw [walk, walk, List.map_cons, e, h]
    rfl
theorem walks_shift (P : List Nat) (d : Bool) (p : List Nat) (up : Bool) : ∀ (i : Nat) (ks : List Kd), walks (P ++ p) (up == d) i ks = (walks p up i ks).map (shift P d)
  | _, [] => by simp [walks]
  | i, k :: ks => by
    have h1 := walk_shift P d (p ++ [i]) up k
    have h2 := walks_shift P d p up (i + 1) ks
    rw [walks, walks, List.map_append, List.append_assoc, h1, h2]
end
theorem pLt_app : ∀ (p a b : List Nat), pLt (p ++ a) (p ++ b) = pLt a b
  | [], a, b => rfl
  | x :: p, a, b => by
    rw [List.cons_append, List.cons_append, pLt, pLt_app p a b]
    simp
theorem walks_split (p : List Nat) (up : Bool) : ∀ (ks : List Kd) (n i : Nat) (c : Kd), ks[i]? = some c → walks p up n ks = walks p up n (ks.take i) ++ (walk (p ++ [n + i]) up c ++ walks p up (n + i + 1) (ks.drop (i + 1)))
  | [], n, i, c, h => by simp at h
  | k :: ks, n, 0, c, h => by
    simp only [List.getElem?_cons_zero, Option.some.injEq] at h
    subst h
    simp [walks]
  | k :: ks, n, i + 1, c, h => by
    have := walks_split p up ks (n + 1) i c (by simpa using h)
    rw [List.take_succ_cons, walks, walks, this, List.append_assoc, List.drop_succ_cons]
    rw [show n + 1 + i = n + (i + 1) from by omega]
def before (P : List Nat) (x : Item) : Bool := pLt x.1 P
def after (P : List Nat) (x : Item) : Bool := pLt P x.1 && !decide (x.1.take P.length = P)
theorem filter_none {α : Type} {f : α → Bool} {xs : List α} (h : ∀ x ∈ xs, f x = false) : xs.filter f = [] := by
  rw [List.filter_eq_nil_iff]
  intro x hx z
  rw [h x hx] at z
  cases z
theorem filter_whole {α : Type} {f : α → Bool} {xs : List α} (h : ∀ x ∈ xs, f x = true) : xs.filter f = xs := List.filter_eq_self.mpr h
theorem pLt_nil (q : List Nat) : pLt q [] = false := by cases q <;> rfl
theorem walks_low (p : List Nat) (up : Bool) (i : Nat) (P : List Nat) (ks : List Kd) (h : ks.length ≤ i) : ∀ x ∈ walks p up 0 ks, before (p ++ i :: P) x = true ∧ after (p ++ i :: P) x = false := fun x hx => by
  obtain ⟨j, q, c, h1, h2, _⟩ := walks_get p up 0 ks x hx
  have hj : j < i := Nat.lt_of_lt_of_le (List.getElem?_eq_some_iff.mp h2).1 h
  rw [Nat.zero_add] at h1
  unfold before after
  rw [h1, pLt_app, pLt_app, pLt, pLt]
  have h3 : ¬ i < j := by omega
  have h4 : ¬ i = j := by omega
  simp [hj, h3, h4]
theorem walks_high (p : List Nat) (up : Bool) (i : Nat) (P : List Nat) (ks : List Kd) : ∀ x ∈ walks p up (i + 1) ks, before (p ++ i :: P) x = false ∧ after (p ++ i :: P) x = true := fun x hx => by
  obtain ⟨j, q, c, h1, h2, _⟩ := walks_get p up (i + 1) ks x hx
  unfold before after
  rw [h1, pLt_app, pLt_app, pLt, pLt, take_app]
  have h3 : i < i + 1 + j := by omega
  have h4 : ¬ i + 1 + j < i := by omega
  have h5 : ¬ i + 1 + j = i := by omega
  simp [h3, h4, h5]
/-- the rows of a kind with a part put in -/
theorem splice (Q : Kd) : ∀ (P : List Nat) (k c : Kd) (p : List Nat) (up : Bool), get k P = some c →
    (walk p up (put k P Q)).map listD = ((walk p up k).filter (before (p ++ P))).map listD ++ ((walk (p ++ P) (dirAt k P up) Q).map listD ++ ((walk p up k).filter (after (p ++ P))).map listD)
  | [], k, c, p, up, _ => by
    have b : (walk p up k).filter (before (p ++ [])) = [] := filter_none fun x hx => by
      obtain ⟨q, h1, _⟩ := walk_get p up k x hx
      unfold before
      rw [h1, pLt_app, pLt_nil]
    have a : (walk p up k).filter (after (p ++ [])) = [] := filter_none fun x hx => by
      obtain ⟨q, h1, _⟩ := walk_get p up k x hx
      unfold after
      rw [h1]
      simp
    rw [b, a]
    obtain ⟨l, ks⟩ := k
    simp [put, dirAt]
  | i :: P, .mk l ks, c, p, up, h => by
    have h' := h
    unfold get at h'
    cases hk : ks[i]? with
    | none =>
      rw [show (Kd.mk l ks).ks[i]? = none from hk] at h'; cases h'
    | some x =>
      rw [show (Kd.mk l ks).ks[i]? = some x from hk] at h'
      have hi : i < ks.length := (List.getElem?_eq_some_iff.mp hk).1
      have ih := splice Q P x c (p ++ [i]) (up != l.isT) h'
      have ep : put (.mk l ks) (i :: P) Q = .mk l (ks.set i (put x P Q)) := by
        show (match ks[i]? with | some c => Kd.mk l (ks.set i (put c P Q)) | none => .mk l ks) = _
        rw [hk]
      have ed : dirAt (.mk l ks) (i :: P) up = dirAt x P (up != l.isT) := by
        show (match ks[i]? with | some c => dirAt c P (up != l.isT) | none => up) = _
        rw [hk]
      have w1 : walk p up (.mk l ks) = (p, .mk l ks, up) :: walks p (up != l.isT) 0 ks := by rw [walk]
      have w2 : walk p up (.mk l (ks.set i (put x P Q))) = (p, .mk l (ks.set i (put x P Q)), up) :: walks p (up != l.isT) 0 (ks.set i (put x P Q)) := by rw [walk]
      have s1 := walks_split p (up != l.isT) ks 0 i x hk
      have s2 := walks_split p (up != l.isT) (ks.set i (put x P Q)) 0 i (put x P Q) (by rw [List.getElem?_set_self hi])
      rw [Nat.zero_add] at s1 s2
      have t1 : (ks.set i (put x P Q)).take i = ks.take i := by
        rw [List.take_set_of_le (Nat.le_refl _)]
      have t2 : (ks.set i (put x P Q)).drop (i + 1) = ks.drop (i + 1) := by
        rw [List.drop_set_of_lt (by omega)]
      rw [t1, t2] at s2
      rw [ep, ed, w1, w2, s1, s2]
      have lo := walks_low p (up != l.isT) i P (ks.take i) (List.length_take_le _ _)
      have hi2 := walks_high p (up != l.isT) i P (ks.drop (i + 1))
      have f1 : (walks p (up != l.isT) 0 (ks.take i)).filter (before (p ++ i :: P)) = walks p (up != l.isT) 0 (ks.take i) := filter_whole fun x hx => (lo x hx).1
      have f2 : (walks p (up != l.isT) 0 (ks.take i)).filter (after (p ++ i :: P)) = [] := filter_none fun x hx => (lo x hx).2
      have f3 : (walks p (up != l.isT) (i + 1) (ks.drop (i + 1))).filter (before (p ++ i :: P)) = [] := filter_none fun x hx => (hi2 x hx).1
      have f4 : (walks p (up != l.isT) (i + 1) (ks.drop (i + 1))).filter (after (p ++ i :: P)) = walks p (up != l.isT) (i + 1) (ks.drop (i + 1)) := filter_whole fun x hx => (hi2 x hx).2
      have r1 : before (p ++ i :: P) (p, .mk l ks, up) = true := by
        unfold before
        have := pLt_app p [] (i :: P)
        rw [List.append_nil] at this
        rw [this]; rfl
      have r2 : after (p ++ i :: P) (p, .mk l ks, up) = false := by
        unfold after
        have := pLt_app p (i :: P) []
        rw [List.append_nil] at this
        rw [this]; rfl
      rw [List.filter_cons, if_pos r1, List.filter_cons, if_neg (by rw [r2]; simp)]
      simp only [List.filter_append, f1, f2, f3, f4, List.nil_append, List.append_nil, List.map_append, List.map_cons]
      rw [app_cons] at ih
      rw [ih]
      have hd : listD (p, .mk l (ks.set i (put x P Q)), up) = listD (p, .mk l ks, up) := rfl
      rw [hd]
      simp only [List.append_assoc, List.cons_append]
noncomputable def bodyP : SS := (qM 4 kApp (sCons (sTup (sCons (s2 addD (sVar 1) (sIx (sVar 5) (sC (.int 0)))) (sCons (sIx (sVar 5) (sC (.int 1))) (sCons (sB (c2 eqD (sIx (sVar 5) (sC (.int 2))) (sV (sVar 2)))) (sCons (sIx (sVar 5) (sC (.int 3))) (sCons (sIx (sVar 5) (sC (.int 4))) sNil)))))) sNil))
theorem add_path {p q : List Nat} {st : Sto} (h : p.length + q.length ≤ 1000) : addD (pathD p) (pathD q) st = .ok (pathD (p ++ q)) st := by
  unfold pathD
  rw [addD_tup, if_pos (by rw [List.length_map, List.length_map, sizeLine_eq]; omega), List.map_append]
theorem addD_lst {xs ys : List D} {st : Sto} : addD (.lst xs) (.lst ys) st = if xs.length + ys.length ≤ sizeLine then .ok (.lst (xs ++ ys)) st else .bad := rfl
theorem f_spliced {R W : List Item} {P : List Nat} {up : Bool} {st : Sto} (hR : R.length ≤ 1000) (hW : W.length ≤ 1000) (hP : P.length ≤ 100) (hw : ∀ x ∈ W, x.1.length ≤ 100) :
    F__law_spliced [.lst (R.map listD), pathD P, .bl up, .lst (W.map listD)] st = .ok (.val (.lst ((R.filter (before P)).map listD ++ ((W.map (shift P up)).map listD ++ (R.filter (after P)).map listD)))) st := by
  have i0 : ∀ x : Item, idxD (listD x) (.int 0) st = .ok (pathD x.1) st := fun x => by simp [listD]
  have ed : ∀ x : Item, derefD (listD x) st = .ok (listD x) st := fun x => by simp [listD]
  have e1 : ∀ s4 : Option Sl, lcL (stepC (.nm 5) (c2 (ordD false false) (sIx (sVar 5) (sC (.int 0))) (sV (sVar 1))) (sVar 5) [some (.val (.lst (R.map listD))), some (.val (pathD P)), some (.val (.bl up)), some (.val (.lst (W.map listD))), s4, none]) (R.map listD) [] st = .ok ((R.filter (before P)).map listD) st := fun s4 => by
    rw [lc_on (g := fun x => if before P x then some (listD x) else none) R [] (fun x hx => ?_) (by rw [List.length_nil]; omega), List.nil_append, filterMap_if]
    cases hb : before P x <;> (unfold before at hb; simp [stepC_eq, i0, ed, deref_path, ord_path, hb])
  have e3 : ∀ s4 : Option Sl, lcL (stepC (.nm 5) (bAnd (c2 (ordD false true) (sIx (sVar 5) (sC (.int 0))) (sV (sVar 1))) (c2 neD (sSl (sIx (sVar 5) (sC (.int 0))) pNone (pSome (s1 lenD (sV (sVar 1))))) (sV (sVar 1)))) (sVar 5) [some (.val (.lst (R.map listD))), some (.val (pathD P)), some (.val (.bl up)), some (.val (.lst (W.map listD))), s4, none]) (R.map listD) [] st = .ok ((R.filter (after P)).map listD) st := fun s4 => by
    rw [lc_on (g := fun x => if after P x then some (listD x) else none) R [] (fun x hx => ?_) (by rw [List.length_nil]; omega), List.nil_append, filterMap_if]
    cases hb : pLt P x.1 <;> by_cases hc : x.1.take P.length = P <;> simp [stepC_eq, i0, ed, deref_path, ord_path, hb, len_path, slice_path, neD_path, hc, after]
  obtain ⟨ρ', st', e2, hI⟩ := for_inv (step := stepT (.nm 5) bodyP) (fun i ρ st' => st' = st ∧ ∃ t5, ρ = [some (.val (.lst (R.map listD))), some (.val (pathD P)), some (.val (.bl up)), some (.val (.lst (W.map listD))), some (.own ((R.filter (before P)).map listD ++ ((W.map (shift P up)).map listD).take i)), t5]) (W.map listD) 0
    [some (.val (.lst (R.map listD))), some (.val (pathD P)), some (.val (.bl up)), some (.val (.lst (W.map listD))), some (.own ((R.filter (before P)).map listD)), none] st ⟨rfl, none, by simp⟩ (fun i d ρ st' hi hI => by
      obtain ⟨rfl, t5, rfl⟩ := hI
      rw [List.getElem?_map] at hi
      cases hx : W[i]? with
      | none => rw [hx] at hi; cases hi
      | some x =>
        rw [hx] at hi
        cases hi
        have hxw := hw x (List.mem_of_getElem? hx)
        have et : ((W.map (shift P up)).map listD).take (0 + i + 1) = ((W.map (shift P up)).map listD).take i ++ [listD (shift P up x)] := by
          rw [Nat.zero_add, List.take_add_one, List.getElem?_map, List.getElem?_map, hx]; rfl
        have i1 : idxD (listD x) (.int 1) st' = .ok (.str x.2.1.lab.sort) st' := by simp [listD]
        have i2 : idxD (listD x) (.int 2) st' = .ok (.bl x.2.2) st' := by simp [listD]
        have i3 : idxD (listD x) (.int 3) st' = .ok (.lst (x.2.1.lab.words.map .str)) st' := by simp [listD]
        have i4 : idxD (listD x) (.int 4) st' = .ok (.bl x.2.1.lab.place) st' := by simp [listD]
        have ea := add_path (p := P) (q := x.1) (st := st') (by omega)
        have z : ((R.filter (before P)).map listD ++ ((W.map (shift P up)).map listD).take i).length < sizeLine := by
          have := List.length_filter_le (before P) R
          rw [List.length_append, List.length_take, List.length_map, List.length_map, List.length_map, sizeLine_eq]
          omega
        rw [Nat.zero_add] at *
        have one : bodyP [some (.val (.lst (R.map listD))), some (.val (pathD P)), some (.val (.bl up)), some (.val (.lst (W.map listD))), some (.own ((R.filter (before P)).map listD ++ ((W.map (shift P up)).map listD).take i)), some (.val (listD x))] st' = .ok (.nx [some (.val (.lst (R.map listD))), some (.val (pathD P)), some (.val (.bl up)), some (.val (.lst (W.map listD))), some (.own ((R.filter (before P)).map listD ++ ((W.map (shift P up)).map listD).take (i + 1))), some (.val (listD x))]) st' := by
          rw [et]
          generalize hG : (R.filter (before P)).map listD ++ ((W.map (shift P up)).map listD).take i = G at *
          rw [← List.append_assoc, hG]
          unfold bodyP
          simp [i0, i1, i2, i3, i4, ed, ea, eqD_bl, smallLine, z]
          rfl
        refine sat_of (a := .nx _) (st := st') (by rw [stepT_nm (by simp)]; exact one) ?_
        exact ⟨rfl, _, rfl⟩)
  obtain ⟨rfl, t5, rfl⟩ := hI
  rw [Nat.zero_add, List.length_map, List.take_of_length_le (by rw [List.length_map, List.length_map]; exact Nat.le_refl _)] at e2
  have z : ((R.filter (before P)).map listD ++ (W.map (shift P up)).map listD).length + ((R.filter (after P)).map listD).length ≤ sizeLine := by
    have := List.length_filter_le (before P) R
    have := List.length_filter_le (after P) R
    rw [List.length_append, List.length_map, List.length_map, List.length_map, List.length_map, sizeLine_eq]
    omega
  have b : B__law_spliced [some (.val (.lst (R.map listD))), some (.val (pathD P)), some (.val (.bl up)), some (.val (.lst (W.map listD))), none, none] st' = .ok (.rt (.val (.lst ((R.filter (before P)).map listD ++ ((W.map (shift P up)).map listD ++ (R.filter (after P)).map listD))))) st' := by
    unfold bodyP at e2
    unfold B__law_spliced
    rw [seq_go (ρ1 := [some (.val (.lst (R.map listD))), some (.val (pathD P)), some (.val (.bl up)), some (.val (.lst (W.map listD))), some (.own ((R.filter (before P)).map listD)), none]) (st1 := st') (by simp [e1])]
    rw [seq_go (for_go (by simp) e2)]
    rw [← List.append_assoc]
    generalize (R.filter (before P)).map listD ++ (W.map (shift P up)).map listD = G at *
    have ez := addD_lst (xs := G) (ys := (R.filter (after P)).map listD) (st := st')
    rw [if_pos z] at ez
    simp [e3, ez]
  unfold F__law_spliced
  simp [b]
end KP
set_option Elab.async false
set_option linter.all false
set_option maxRecDepth 100000
set_option maxHeartbeats 1000000
set_option autoImplicit false
/-! QL: the plain law of k53: parts put in trees. -/
namespace KP
open PySem PySem.Spec PyProof.Rows L2 Ds KG
theorem get_cons {l : Lab} {ks : List Kd} {i : Nat} {P : List Nat} {x : Kd} (h : ks[i]? = some x) : get (.mk l ks) (i :: P) = get x P := by
  show (match ks[i]? with | some c => get c P | none => none) = _
  rw [h]
theorem get_cons0 {l : Lab} {ks : List Kd} {i : Nat} {P : List Nat} (h : ks[i]? = none) : get (.mk l ks) (i :: P) = none := by
  show (match ks[i]? with | some c => get c P | none => none) = _
  rw [h]
theorem put_cons {l : Lab} {ks : List Kd} {i : Nat} {P : List Nat} {x q : Kd} (h : ks[i]? = some x) : put (.mk l ks) (i :: P) q = .mk l (ks.set i (put x P q)) := by
  show (match ks[i]? with | some c => Kd.mk l (ks.set i (put c P q)) | none => .mk l ks) = _
  rw [h]
theorem put_nil (k q : Kd) : put k [] q = q := by cases k; rfl
/-- the first step of a path that leads somewhere -/
theorem get_step {l : Lab} {ks : List Kd} {i : Nat} {P : List Nat} {c : Kd} (h : get (.mk l ks) (i :: P) = some c) : ∃ x, ks[i]? = some x ∧ get x P = some c := by
  cases hk : ks[i]? with
  | none => rw [get_cons0 hk] at h; cases h
  | some x => rw [get_cons hk] at h; exact ⟨x, rfl, h⟩
theorem get_put : ∀ (P : List Nat) (k c q : Kd), get k P = some c → get (put k P q) P = some q
  | [], k, c, q, _ => by rw [put_nil]; rfl
  | i :: P, .mk l ks, c, q, h => by
    obtain ⟨x, hk, h'⟩ := get_step h
    have hi : i < ks.length := (List.getElem?_eq_some_iff.mp hk).1
    rw [put_cons hk, get_cons (x := put x P q) (by rw [List.getElem?_set_self hi])]
    exact get_put P x c q h'
theorem put_put : ∀ (P : List Nat) (k c q r : Kd), get k P = some c → put (put k P q) P r = put k P r
  | [], k, c, q, r, _ => by rw [put_nil, put_nil]
  | i :: P, .mk l ks, c, q, r, h => by
    obtain ⟨x, hk, h'⟩ := get_step h
    have hi : i < ks.length := (List.getElem?_eq_some_iff.mp hk).1
    rw [put_cons hk, put_cons (x := put x P q) (by rw [List.getElem?_set_self hi]), put_put P x c q r h', put_cons hk, List.set_set]
theorem put_get : ∀ (P : List Nat) (k c : Kd), get k P = some c → put k P c = k
  | [], k, c, h => by
    simp only [get, Option.some.injEq] at h
    rw [put_nil, h]
  | i :: P, .mk l ks, c, h => by
    obtain ⟨x, hk, h'⟩ := get_step h
    have e := (List.getElem?_eq_some_iff.mp hk).2
    rw [put_cons hk, put_get P x c h', ← e, List.set_getElem_self]
/-- neither begins the other -/
def Apart2 (P R : List Nat) : Prop := R.take P.length ≠ P ∧ P.take R.length ≠ R
theorem apart_cons {i : Nat} {P R : List Nat} (h : Apart2 (i :: P) (i :: R)) : Apart2 P R := by
  obtain ⟨h1, h2⟩ := h
  refine ⟨fun z => h1 ?_, fun z => h2 ?_⟩
  · rw [List.length_cons, List.take_succ_cons, z]
  · rw [List.length_cons, List.take_succ_cons, z]
theorem get_apart : ∀ (P R : List Nat) (k c d q : Kd), Apart2 P R → get k P = some c → get k R = some d → get (put k P q) R = some d
  | [], R, k, c, d, q, ha, _, _ => absurd (by simp) ha.1
  | i :: P, [], k, c, d, q, ha, _, _ => absurd (by simp) ha.2
  | i :: P, j :: R, .mk l ks, c, d, q, ha, h1, h2 => by
    obtain ⟨x, hk, h1'⟩ := get_step h1
    obtain ⟨y, hj, h2'⟩ := get_step h2
    have hi : i < ks.length := (List.getElem?_eq_some_iff.mp hk).1
    rw [put_cons hk]
    by_cases e : i = j
    · subst e
      rw [hk] at hj
      cases hj
      rw [get_cons (x := put x P q) (by rw [List.getElem?_set_self hi])]
      exact get_apart P R x c d q (apart_cons ha) h1' h2'
    · rw [get_cons (x := y) (by rw [List.getElem?_set_ne e]; exact hj)]
      exact h2'
theorem put_apart2 : ∀ (P R : List Nat) (k c d q r : Kd), Apart2 P R → get k P = some c → get k R = some d → put (put k P q) R r = put (put k R r) P q
  | [], R, k, c, d, q, r, ha, _, _ => absurd (by simp) ha.1
  | i :: P, [], k, c, d, q, r, ha, _, _ => absurd (by simp) ha.2
  | i :: P, j :: R, .mk l ks, c, d, q, r, ha, h1, h2 => by
    obtain ⟨x, hk, h1'⟩ := get_step h1
    obtain ⟨y, hj, h2'⟩ := get_step h2
    have hi : i < ks.length := (List.getElem?_eq_some_iff.mp hk).1
    have hj2 : j < ks.length := (List.getElem?_eq_some_iff.mp hj).1
    rw [put_cons hk, put_cons hj]
    by_cases e : i = j
    · subst e
      rw [hk] at hj
      cases hj
      rw [put_cons (x := put x P q) (by rw [List.getElem?_set_self hi]), put_cons (x := put x R r) (by rw [List.getElem?_set_self hi]), List.set_set, List.set_set, put_apart2 P R x c d q r (apart_cons ha) h1' h2']
    · rw [put_cons (x := y) (by rw [List.getElem?_set_ne e]; exact hj), put_cons (x := x) (by rw [List.getElem?_set_ne (fun z => e z.symm)]; exact hk)]
      rw [List.set_comm _ _ e]
/-! ### sizes -/
theorem oks_iff : ∀ ks : List Kd, Kd.oks ks ↔ ∀ k ∈ ks, k.ok
  | [] => by simp [Kd.oks]
  | k :: ks => by simp [Kd.oks, oks_iff ks]
theorem sizes_set : ∀ (ks : List Kd) (i : Nat) (x y : Kd), ks[i]? = some x → Kd.sizes (ks.set i y) + x.size = Kd.sizes ks + y.size
  | [], i, x, y, h => by simp at h
  | k :: ks, 0, x, y, h => by
    simp only [List.getElem?_cons_zero, Option.some.injEq] at h
    subst h
    rw [List.set_cons_zero, Kd.sizes, Kd.sizes]
    omega
  | k :: ks, i + 1, x, y, h => by
    have := sizes_set ks i x y (by simpa using h)
    rw [List.set_cons_succ, Kd.sizes, Kd.sizes]
    omega
theorem letterss_set : ∀ (ks : List Kd) (i : Nat) (x y : Kd), ks[i]? = some x → Kd.letterss (ks.set i y) + x.letters = Kd.letterss ks + y.letters
  | [], i, x, y, h => by simp at h
  | k :: ks, 0, x, y, h => by
    simp only [List.getElem?_cons_zero, Option.some.injEq] at h
    subst h
    rw [List.set_cons_zero, Kd.letterss, Kd.letterss]
    omega
  | k :: ks, i + 1, x, y, h => by
    have := letterss_set ks i x y (by simpa using h)
    rw [List.set_cons_succ, Kd.letterss, Kd.letterss]
    omega
theorem deps_set : ∀ (ks : List Kd) (i m : Nat) (x y : Kd), ks[i]? = some x → dep y ≤ dep x + m → deps (ks.set i y) ≤ deps ks + m
  | [], i, m, x, y, h, _ => by simp at h
  | k :: ks, 0, m, x, y, h, hd => by
    simp only [List.getElem?_cons_zero, Option.some.injEq] at h
    subst h
    rw [List.set_cons_zero, deps, deps]
    omega
  | k :: ks, i + 1, m, x, y, h, hd => by
    have := deps_set ks i m x y (by simpa using h) hd
    rw [List.set_cons_succ, deps, deps]
    omega
theorem put_size : ∀ (P : List Nat) (k c q : Kd), get k P = some c → (put k P q).size + c.size = k.size + q.size
  | [], k, c, q, h => by
    simp only [get, Option.some.injEq] at h
    rw [put_nil, h]
    omega
  | i :: P, .mk l ks, c, q, h => by
    obtain ⟨x, hk, h'⟩ := get_step h
    have h1 := put_size P x c q h'
    have h2 := sizes_set ks i x (put x P q) hk
    rw [put_cons hk, Kd.size, Kd.size]
    omega
theorem put_letters : ∀ (P : List Nat) (k c q : Kd), get k P = some c → (put k P q).letters + c.letters = k.letters + q.letters
  | [], k, c, q, h => by
    simp only [get, Option.some.injEq] at h
    rw [put_nil, h]
    omega
  | i :: P, .mk l ks, c, q, h => by
    obtain ⟨x, hk, h'⟩ := get_step h
    have h1 := put_letters P x c q h'
    have h2 := letterss_set ks i x (put x P q) hk
    rw [put_cons hk, Kd.letters, Kd.letters]
    omega
theorem put_dep : ∀ (P : List Nat) (k c q : Kd), get k P = some c → dep (put k P q) ≤ dep k + dep q
  | [], k, c, q, h => by
    rw [put_nil]
    omega
  | i :: P, .mk l ks, c, q, h => by
    obtain ⟨x, hk, h'⟩ := get_step h
    have h1 := put_dep P x c q h'
    have h2 := deps_set ks i (dep q) x (put x P q) hk h1
    rw [put_cons hk, dep, dep]
    omega
theorem put_ok : ∀ (P : List Nat) (k c q : Kd), get k P = some c → k.ok → q.ok → (put k P q).ok
  | [], k, c, q, h, _, hq => by rw [put_nil]; exact hq
  | i :: P, .mk l ks, c, q, h, ho, hq => by
    obtain ⟨x, hk, h'⟩ := get_step h
    rw [put_cons hk]
    unfold Kd.ok at ho ⊢
    refine ⟨by rw [List.length_set]; exact ho.1, (oks_iff _).mpr fun y hy => ?_⟩
    rcases List.mem_or_eq_of_mem_set hy with h | h
    · exact (oks_iff _).mp ho.2 y h
    · rw [h]
      exact put_ok P x c q h' ((oks_iff _).mp ho.2 x (List.mem_of_getElem? hk)) hq
theorem fine_of {k : Kd} {a b d : Nat} (ho : k.ok) (h1 : k.size ≤ 24) (h2 : k.letters ≤ 60) (h3 : dep k ≤ 3) : k.fine := ⟨ho, h1, h2, by rw [deepS_zero]; exact h3⟩
end KP
set_option Elab.async false
set_option linter.all false
set_option maxRecDepth 100000
set_option maxHeartbeats 1000000
set_option autoImplicit false
/-! RA: the plain law: the store of drawn numbers; _law_mix, _law_refill. -/
namespace KP
open PySem PySem.Spec PyProof.Rows L2 Ds KG
/-- all but the objects ms stay -/
def Fr (ms : List Nat) (st st' : Sto) : Prop := st.length ≤ st'.length ∧ ∀ j, j < st.length → j ∉ ms → st'[j]? = st[j]?
theorem Fr.refl (ms : List Nat) (st : Sto) : Fr ms st st := ⟨Nat.le_refl _, fun _ _ _ => rfl⟩
theorem Fr.trans {ms : List Nat} {a b c : Sto} (h : Fr ms a b) (k : Fr ms b c) : Fr ms a c := ⟨Nat.le_trans h.1 k.1, fun j hj hm => (k.2 j (by have := h.1; omega) hm).trans (h.2 j hj hm)⟩
theorem Fr.more {ms ns : List Nat} {a b : Sto} (h : Fr ms a b) (k : ∀ m ∈ ms, m ∈ ns) : Fr ns a b := ⟨h.1, fun j hj hm => h.2 j hj fun z => hm (k j z)⟩
theorem Fr.set {ms : List Nat} {st : Sto} {n : Nat} {o : Option MO} (h : n ∈ ms) : Fr ms st (st.set n o) := ⟨by rw [List.length_set]; exact Nat.le_refl _, fun j hj hm => by
  rw [List.getElem?_set_ne (fun z => hm (by rw [← z]; exact h))]⟩
theorem Fr.push {ms : List Nat} {st : Sto} {o : Option MO} : Fr ms st (st ++ [o]) := ⟨by rw [List.length_append]; omega, fun j hj hm => by
  rw [List.getElem?_append_left hj]⟩
theorem set_at {st : Sto} {n : Nat} {o o' : Option MO} (h : st[n]? = some o) : (st.set n o')[n]? = some o' := by
  rw [List.getElem?_set_self (List.getElem?_eq_some_iff.mp h).1]
theorem derefD_ref {n : Nat} {st : Sto} {ds : List D} (h : st[n]? = some (some (.lst ds))) : derefD (.ref n) st = .ok (.lst ds) st := by
  unfold derefD
  simp only [h]
theorem setR_go {fe f g : SE} {ρ : En} {st : Sto} {n j : Nat} {y : D} {xs : List D} (h1 : fe ρ st = .ok y st) (h2 : f ρ st = .ok (.ref n) st) (h3 : g ρ st = .ok (.int j) st) (h4 : st[n]? = some (some (.lst xs))) (h5 : j < xs.length) :
    qSetR fe f g ρ st = .ok (.nx ρ) (st.set n (some (.lst (xs.set j y)))) := by
  unfold qSetR
  rw [h1, Out.bind_ok, h2, Out.bind_ok, h3, Out.bind_ok]
  simp only [h4]
  have : setI xs (.int j) y = some (xs.set j y) := by
    unfold setI ixN
    simp [h5]
  rw [this]
theorem setR_sat {fe f g : SE} {ρ : En} {st : Sto} {n j : Nat} {y : D} {xs : List D} {r : SS} (h1 : fe ρ st = .ok y st) (h2 : f ρ st = .ok (.ref n) st) (h3 : g ρ st = .ok (.int j) st) (h4 : st[n]? = some (some (.lst xs))) (h5 : j < xs.length) :
    qSeq (qSetR fe f g) r ρ st = r ρ (st.set n (some (.lst (xs.set j y)))) := seq_go (setR_go h1 h2 h3 h4 h5)
/-- an item of a shared list -/
theorem ixR {f : SE} {ρ : En} {st : Sto} {n : Nat} {i : Int} {y : D} {xs : List D} (j : Nat) (h1 : f ρ st = .ok (.ref n) st) (h4 : st[n]? = some (some (.lst xs))) (h5 : xs[j]? = some y) (hi : i = (j : Int) := by rfl) : sIx f (sC (.int i)) ρ st = .ok y st := by
  subst hi
  rw [sIx_eq, h1, ixK_ok, sC_eq, ixK2_ok, derefD_ref h4, ixK3_ok, idx_lst h5]
/-! ### numbers -/
theorem log_lt {n k : Nat} (hk : 0 < k) (h : n < 2 ^ k) : n.log2 < k := by
  by_cases h0 : n = 0
  · subst h0
    simpa using hk
  · exact (Nat.log2_lt h0).mpr h
theorem mulD_ok2 {i j : Int} {k m : Nat} {st : Sto} (hk : 0 < k) (hm : 0 < m) (hi : i.natAbs < 2 ^ k) (hj : j.natAbs < 2 ^ m) (hz : k + m ≤ 100000) : mulD (.int i) (.int j) st = .ok (.int (i * j)) st := by
  show (if _ then _ else _) = _
  rw [if_pos]
  have h1 := log_lt hk hi
  have h2 := log_lt hm hj
  omega
theorem modD_ii {i j : Int} {st : Sto} (h : 0 < j) : modD (.int i) (.int j) st = .ok (.int (i % j)) st := by
  show (if _ then _ else _) = _
  rw [if_pos h]
theorem divD_ii {i j : Int} {k : Nat} {st : Sto} (h : 0 < j) (hk : 0 < k) (hj : j.natAbs < 2 ^ k) (hz : k ≤ 9000) : divD (.int i) (.int j) st = .ok (.int (i / j)) st := by
  show (if _ then _ else _) = _
  rw [if_pos ⟨h, Nat.lt_of_lt_of_le (log_lt hk hj) hz⟩]
theorem powWD_ii {i j : Int} {st : Sto} (h : 0 ≤ j ∧ ((i.natAbs.log2 + 1 : Nat) : Int) * j ≤ 134217728) : powWD (.int i) (.int j) st = .ok (.int (i ^ j.toNat)) st := by
  show (if _ then _ else _) = _
  rw [if_pos h]
theorem intD_i {i : Int} {st : Sto} : intD (.int i) st = .ok (.int i) st := rfl
theorem mod_nat (x : Int) {m : Nat} (h : 0 < m) : ∃ n : Nat, x % (m : Int) = (n : Int) ∧ n < m := by
  have h1 := Int.emod_nonneg x (show (m : Int) ≠ 0 by omega)
  have h2 := Int.emod_lt_of_pos x (show (0 : Int) < m by omega)
  exact ⟨(x % (m : Int)).toNat, by omega, by omega⟩
set_option exponentiation.threshold 5000
/-- a bound of all numbers of the store -/
abbrev BB : Nat := 2 ^ 2100
theorem f_mix {a b : Nat} {st : Sto} (ha : a < BB) (hb : b < BB) : ∃ r : Nat, F__law_mix [.int a, .int b] st = .ok (.val (.int r)) st ∧ r < 2147483629 := by
  obtain ⟨n1, e1, l1⟩ := mod_nat ((a : Int) * 6364136223846793005 + (b : Int) * 1442695040888963407 + 1013904223) (m := 2305843009213693951) (by omega)
  obtain ⟨n2, e2, l2⟩ := mod_nat ((n1 : Int) * (n1 : Int) + (n1 : Int) / 4099 + (b : Int) * 69621) (m := 2305843009213693921) (by omega)
  obtain ⟨n3, e3, l3⟩ := mod_nat ((n2 : Int) * 48271 + (n2 : Int) / 2147483647) (m := 2147483629) (by omega)
  have m1 : mulD (.int a) (.int 6364136223846793005) st = .ok (.int ((a : Int) * 6364136223846793005)) st := mulD_ok2 (k := 2100) (m := 64) (by omega) (by omega) (by rw [Int.natAbs_natCast]; exact ha) (by decide) (by omega)
  have m2 : mulD (.int b) (.int 1442695040888963407) st = .ok (.int ((b : Int) * 1442695040888963407)) st := mulD_ok2 (k := 2100) (m := 64) (by omega) (by omega) (by rw [Int.natAbs_natCast]; exact hb) (by decide) (by omega)
  have m3 : mulD (.int n1) (.int n1) st = .ok (.int ((n1 : Int) * n1)) st := mulD_ok2 (k := 64) (m := 64) (by omega) (by omega) (by rw [Int.natAbs_natCast]; omega) (by rw [Int.natAbs_natCast]; omega) (by omega)
  have m4 : mulD (.int b) (.int 69621) st = .ok (.int ((b : Int) * 69621)) st := mulD_ok2 (k := 2100) (m := 64) (by omega) (by omega) (by rw [Int.natAbs_natCast]; exact hb) (by decide) (by omega)
  have m5 : mulD (.int n2) (.int 48271) st = .ok (.int ((n2 : Int) * 48271)) st := mulD_ok2 (k := 64) (m := 64) (by omega) (by omega) (by rw [Int.natAbs_natCast]; omega) (by decide) (by omega)
  have d1 : divD (.int n1) (.int 4099) st = .ok (.int ((n1 : Int) / 4099)) st := divD_ii (k := 64) (by omega) (by omega) (by decide) (by omega)
  have d2 : divD (.int n2) (.int 2147483647) st = .ok (.int ((n2 : Int) / 2147483647)) st := divD_ii (k := 64) (by omega) (by omega) (by decide) (by omega)
  refine ⟨n3, ?_, l3⟩
  have b : B__law_mix [some (.val (.int a)), some (.val (.int b)), none, none] st = .ok (.rt (.val (.int n3))) st := by
    unfold B__law_mix
    rw [seq_go (ρ1 := [some (.val (.int a)), some (.val (.int b)), some (.val (.int n1)), none]) (st1 := st) (by
      rw [← e1]
      simp [m1, m2, intD_i, modD_ii])]
    rw [seq_go (ρ1 := [some (.val (.int a)), some (.val (.int b)), some (.val (.int n1)), some (.val (.int n2))]) (st1 := st) (by
      rw [← e2]
      simp [m3, m4, d1, intD_i, modD_ii])]
    rw [← e3]
    simp [m5, d2, intD_i, modD_ii]
  unfold F__law_mix
  simp [b]
/-! ### the store -/
structure S7 where
  cells : List D
  pos : Nat
  big : Nat
  turn : Nat
  num : Nat
  left : Int
  seed : Nat
def S7.D (x : S7) : List Ds.D := [.lst x.cells, .int x.pos, .int x.big, .int x.turn, .int x.num, .int x.left, .int x.seed]
structure S7.ok (x : S7) (c : Nat) : Prop where
  cells : ∀ y ∈ x.cells, ∃ a b : Nat, y = .tup [.int a, .int b] ∧ a < 2 ^ 2000 ∧ b ≤ 1
  big : x.big < BB
  turn : x.turn ≤ c
  num : x.num < BB
  seed : x.seed < BB
/-- the store stands at s, at most c turns were counted -/
def GS (st : Sto) (s c : Nat) : Prop := ∃ x : S7, st[s]? = some (some (.lst x.D)) ∧ x.ok c
theorem GS.mono {st : Sto} {s c d : Nat} (h : GS st s c) (k : c ≤ d) : GS st s d := by
  obtain ⟨x, h1, h2⟩ := h
  exact ⟨x, h1, ⟨h2.cells, h2.big, Nat.le_trans h2.turn k, h2.num, h2.seed⟩⟩
theorem GS.lt {st : Sto} {s c : Nat} (h : GS st s c) : s < st.length := by
  obtain ⟨x, h1, _⟩ := h
  exact (List.getElem?_eq_some_iff.mp h1).1
theorem f_refill {st : Sto} {s c : Nat} {x : S7} (h : st[s]? = some (some (.lst x.D))) (ho : x.ok c) : ∃ y : S7, F__law_refill [.ref s] st = .ok (.val .non) (st.set s (some (.lst y.D))) ∧ y.ok c := by
  have hs : s < st.length := (List.getElem?_eq_some_iff.mp h).1
  have at' : ∀ v : Option MO, (st.set s v)[s]? = some v := fun v => set_at h
  have body : ∃ y : S7, y.ok c ∧ ∃ ρ', B__law_refill [some (.val (.ref s)), none] st = .ok (.nx ρ') (st.set s (some (.lst y.D))) := by
    unfold B__law_refill
    rw [setR_sat (n := s) (j := 2) (y := .int 0) (xs := x.D) (by simp) (by simp) (by simp) h (by simp [S7.D])]
    rw [setR_sat (n := s) (j := 4) (y := .int x.seed) (xs := x.D.set 2 (.int 0)) (ixR (n := s) 6 (xs := x.D.set 2 (.int 0)) (by simp) (at' _) (by simp [S7.D])) (by simp) (by simp) (at' _) (by simp [S7.D]), List.set_set]
    rw [setR_sat (n := s) (j := 5) (y := .int 1000) (xs := (x.D.set 2 (.int 0)).set 4 (.int x.seed)) (by simp) (by simp) (by simp) (at' _) (by simp [S7.D]), List.set_set]
    generalize hx1 : ((x.D.set 2 (.int 0)).set 4 (.int x.seed)).set 5 (.int 1000) = X1
    have hX1 : X1 = [.lst x.cells, .int x.pos, .int 0, .int x.turn, .int x.seed, .int 1000, .int x.seed] := by rw [← hx1]; rfl
    have i0 : ∀ ρ : En, ρ[0]? = some (some (.val (.ref s))) → sIx (sVar 0) (sC (.int 0)) ρ (st.set s (some (.lst X1))) = .ok (.lst x.cells) (st.set s (some (.lst X1))) := fun ρ hρ => ixR (n := s) 0 (xs := X1) (by simp [hρ]) (at' _) (by rw [hX1]; rfl)
    have i1 : ∀ ρ : En, ρ[0]? = some (some (.val (.ref s))) → sIx (sVar 0) (sC (.int 1)) ρ (st.set s (some (.lst X1))) = .ok (.int x.pos) (st.set s (some (.lst X1))) := fun ρ hρ => ixR (n := s) 1 (xs := X1) (by simp [hρ]) (at' _) (by rw [hX1]; rfl)
    by_cases hp : x.pos < x.cells.length
    · have hc := List.getElem?_eq_getElem hp
      obtain ⟨a, b, e, ha, hb⟩ := ho.cells _ (List.mem_of_getElem? hc)
      rw [e] at hc
      rw [if_t (st1 := st.set s (some (.lst X1))) (by simp [-sIx_eq, i0, i1, hp])]
      rw [seq_go (ρ1 := [some (.val (.ref s)), some (.val (.tup [.int a, .int b]))]) (st1 := st.set s (some (.lst X1))) (by
        have : sIx (sIx (sVar 0) (sC (.int 0))) (sIx (sVar 0) (sC (.int 1))) [some (.val (.ref s)), none] (st.set s (some (.lst X1))) = .ok (.tup [.int a, .int b]) (st.set s (some (.lst X1))) := by
          rw [sIx_eq, i0 _ rfl, ixK_ok, i1 _ rfl]
          simp [idx_lst hc]
        rw [qSet_eq, this]
        simp)]
      rw [setR_sat (n := s) (j := 1) (y := .int (x.pos + 1)) (xs := X1) (by rw [s2_eq, i1 _ rfl]; simp) (by simp) (by simp) (at' _) (by rw [hX1]; simp), List.set_set]
      have m1 : ∀ st : Sto, mulD (.int a) (.int 2) st = .ok (.int ((a : Int) * 2)) st := fun st => mulD_ok2 (k := 2000) (m := 64) (by omega) (by omega) (by rw [Int.natAbs_natCast]; exact ha) (by decide) (by omega)
      rw [setR_sat (n := s) (j := 4) (y := .int ((a : Int) * 2 + b)) (xs := X1.set 1 (.int (x.pos + 1))) (by simp [m1]) (by simp) (by simp) (at' _) (by rw [hX1]; simp), List.set_set]
      rw [setR_sat (n := s) (j := 5) (y := .int 4) (xs := (X1.set 1 (.int (x.pos + 1))).set 4 (.int ((a : Int) * 2 + b))) (by simp) (by simp) (by simp) (at' _) (by rw [hX1]; simp), List.set_set]
      have pw : ∀ st : Sto, powWD (.int 10) (.int 18) st = .ok (.int 1000000000000000000) st := fun st => by
        rw [powWD_ii (by decide +kernel)]
        rfl
      generalize hx2 : ((X1.set 1 (.int (x.pos + 1))).set 4 (.int ((a : Int) * 2 + b))).set 5 (.int 4) = X2
      have hX2 : X2 = [.lst x.cells, .int (x.pos + 1), .int 0, .int x.turn, .int ((a : Int) * 2 + b), .int 4, .int x.seed] := by rw [← hx2, hX1]; rfl
      have hnum : a * 2 + b < BB := by
        have : (2 : Nat) ^ 2100 = 2 ^ 2000 * 2 ^ 100 := by rw [← Nat.pow_add]
        have h2 : (2 : Nat) ^ 100 = 1267650600228229401496703205376 := by decide
        show _ < 2 ^ 2100
        rw [this, h2]
        omega
      by_cases hbig : 1000000000000000000 ≤ a
      · rw [if_t (st1 := st.set s (some (.lst X2))) (by simp [pw]; omega)]
        have m2 : ∀ st : Sto, mulD (.int 2) (.int b) st = .ok (.int (2 * (b : Int))) st := fun st => mulD_ok2 (k := 64) (m := 64) (by omega) (by omega) (by decide) (by rw [Int.natAbs_natCast]; omega) (by omega)
        have m3 : ∀ st : Sto, mulD (.int a) (.int (1 + 2 * (b : Int))) st = .ok (.int ((a : Int) * (1 + 2 * (b : Int)))) st := fun st => mulD_ok2 (k := 2000) (m := 64) (by omega) (by omega) (by rw [Int.natAbs_natCast]; exact ha) (by omega) (by omega)
        rw [setR_sat (n := s) (j := 2) (y := .int ((a : Int) * (1 + 2 * (b : Int)) + b)) (xs := X2) (by simp [m2, m3]) (by simp) (by simp) (at' _) (by rw [hX2]; simp), List.set_set]
        rw [setR_go (n := s) (j := 5) (y := .int 0) (xs := X2.set 2 (.int ((a : Int) * (1 + 2 * (b : Int)) + b))) (by simp) (by simp) (by simp) (at' _) (by rw [hX2]; simp), List.set_set]
        refine ⟨⟨x.cells, x.pos + 1, a * (1 + 2 * b) + b, x.turn, a * 2 + b, 0, x.seed⟩, ⟨ho.cells, ?_, ho.turn, hnum, ho.seed⟩, [some (.val (.ref s)), some (.val (.tup [.int a, .int b]))], ?_⟩
        · have : (2 : Nat) ^ 2100 = 2 ^ 2000 * 2 ^ 100 := by rw [← Nat.pow_add]
          have h2 : (2 : Nat) ^ 100 = 1267650600228229401496703205376 := by decide
          show a * (1 + 2 * b) + b < 2 ^ 2100
          rw [this, h2]
          rcases (by omega : b = 0 ∨ b = 1) with rfl | rfl <;> omega
        · rw [hX2]
          simp [S7.D]
      · rw [if_f (st1 := st.set s (some (.lst X2))) (by simp [pw]; omega)]
        refine ⟨⟨x.cells, x.pos + 1, 0, x.turn, a * 2 + b, 4, x.seed⟩, ⟨ho.cells, by show 0 < 2 ^ 2100; exact Nat.pos_of_ne_zero (by simp), ho.turn, hnum, ho.seed⟩, [some (.val (.ref s)), some (.val (.tup [.int a, .int b]))], ?_⟩
        rw [hX2]
        simp [S7.D]
    · rw [if_f (st1 := st.set s (some (.lst X1))) (by simp [-sIx_eq, i0, i1]; omega)]
      refine ⟨⟨x.cells, x.pos, 0, x.turn, x.seed, 1000, x.seed⟩, ⟨ho.cells, by show 0 < 2 ^ 2100; exact Nat.pos_of_ne_zero (by simp), ho.turn, ho.seed, ho.seed⟩, [some (.val (.ref s)), none], ?_⟩
      rw [hX1]
      simp [S7.D]
  obtain ⟨y, hy, ρ', e⟩ := body
  refine ⟨y, ?_, hy⟩
  unfold F__law_refill
  simp [e]
end KP
set_option Elab.async false
set_option linter.all false
set_option maxRecDepth 100000
set_option maxHeartbeats 1000000
set_option autoImplicit false
set_option exponentiation.threshold 5000
/-! RB: the plain law: _law_take, _law_pick, _law_store. -/
namespace KP
open PySem PySem.Spec PyProof.Rows L2 Ds KG
noncomputable def mixB : SS := (qIf (c2 (ordD false false) (sVar 3) (sV (sVar 1))) (qSeq (qSet 2 (s2 addD (s2 mulD (sVar 2) (sC (.int 2147483629))) (sCall F__law_mix [] (sCons (sIx (sVar 0) (sC (.int 4))) (sCons (sIx (sVar 0) (sC (.int 3))) sNil))))) (qSeq (qSet 3 (s2 mulD (sVar 3) (sC (.int 2147483629)))) (qSetR (s2 addD (sIx (sVar 0) (sC (.int 3))) (sC (.int 1))) (sVar 0) (sC (.int 3))))) qNil)
/-- the slots and the store within the loop of _law_take -/
def TK (s m : Nat) (st0 : Sto) (c i : Nat) (ρ : En) (st : Sto) : Prop := (∃ y : S7, st[s]? = some (some (.lst y.D)) ∧ y.ok (c + i)) ∧ Fr [s] st0 st ∧ ρ.length = 5 ∧ ρ[0]? = some (some (.val (.ref s))) ∧ ρ[1]? = some (some (.val (.int m))) ∧
  ∃ told size : Nat, ρ[2]? = some (some (.val (.int told))) ∧ ρ[3]? = some (some (.val (.int size))) ∧ told < 2 ^ (32 * i) ∧ size ≤ 2 ^ (32 * i)
theorem turn_take {s m c i : Nat} {d : D} {st0 st : Sto} {ρ : En} (hi : i < 6) (hc : c ≤ 2 ^ 64) (h : TK s m st0 c i ρ st) : sat (stepT (.nm 4) mixB d ρ st) (nxt (TK s m st0 c (i + 1))) := by
  obtain ⟨⟨y, hy, oy⟩, hF, hl, h0, h1, told, size, h2, h3, ht, hz⟩ := h
  have hp : (2 : Nat) ^ (32 * (i + 1)) = 2 ^ (32 * i) * 4294967296 := by
    rw [Nat.mul_add, Nat.pow_add]
  have hp6 : (2 : Nat) ^ (32 * i) ≤ 2 ^ 200 := Nat.pow_le_pow_right (by omega) (by omega)
  generalize hT : (2 : Nat) ^ (32 * i) = T at *
  rw [stepT_nm (by omega)]
  generalize hρ : ρ.set 4 (some (.val d)) = ρ1
  have g0 : ρ1[0]? = some (some (.val (.ref s))) := by rw [← hρ]; simpa using h0
  have g1 : ρ1[1]? = some (some (.val (.int m))) := by rw [← hρ]; simpa using h1
  have g2 : ρ1[2]? = some (some (.val (.int told))) := by rw [← hρ]; simpa using h2
  have g3 : ρ1[3]? = some (some (.val (.int size))) := by rw [← hρ]; simpa using h3
  have gl : ρ1.length = 5 := by rw [← hρ]; simpa using hl
  clear hρ h0 h1 h2 h3 hl
  unfold mixB
  by_cases hs : size < m
  · rw [if_t (st1 := st) (by simp [-getElem?_pos, g1, g3, hs])]
    have hBB : (2 : Nat) ^ 64 + 6 < BB := by
      show _ < 2 ^ 2100
      have : (2 : Nat) ^ 2100 = 2 ^ 64 * 2 ^ 2036 := by rw [← Nat.pow_add]
      have h2 : (2 : Nat) ≤ 2 ^ 2036 := by
        have := Nat.pow_le_pow_right (n := 2) (by omega) (show 1 ≤ 2036 by omega)
        simpa using this
      have h3 : (2 : Nat) ^ 64 * 2 ≤ 2 ^ 64 * 2 ^ 2036 := Nat.mul_le_mul_left _ h2
      rw [this]
      omega
    obtain ⟨r, er, hr⟩ := f_mix (a := y.num) (b := y.turn) (st := st) oy.num (by have := oy.turn; omega)
    have m1 : mulD (.int told) (.int 2147483629) st = .ok (.int ((told : Int) * 2147483629)) st := mulD_ok2 (k := 200) (m := 64) (by omega) (by omega) (by rw [Int.natAbs_natCast]; omega) (by decide) (by omega)
    have hz2 : size < 2 ^ 201 := by
      have : (2 : Nat) ^ 201 = 2 ^ 200 * 2 := by rw [Nat.pow_succ]
      have : 0 < (2 : Nat) ^ 200 := Nat.pow_pos (by omega)
      omega
    have m2 : mulD (.int size) (.int 2147483629) st = .ok (.int ((size : Int) * 2147483629)) st := mulD_ok2 (k := 201) (m := 64) (by omega) (by omega) (by rw [Int.natAbs_natCast]; exact hz2) (by decide) (by omega)
    have x4 : sIx (sVar 0) (sC (.int 4)) ρ1 st = .ok (.int y.num) st := ixR (n := s) 4 (by simp [-getElem?_pos, g0]) hy rfl
    have x3 : sIx (sVar 0) (sC (.int 3)) ρ1 st = .ok (.int y.turn) st := ixR (n := s) 3 (by simp [-getElem?_pos, g0]) hy rfl
    rw [seq_go (ρ1 := ρ1.set 2 (some (.val (.int ((told * 2147483629 + r : Nat) : Int))))) (st1 := st) (by simp [-getElem?_pos, -sIx_eq, x3, x4, er, g2, gl, m1])]
    generalize hρ : ρ1.set 2 (some (.val (.int ((told * 2147483629 + r : Nat) : Int)))) = ρ2
    have k0 : ρ2[0]? = some (some (.val (.ref s))) := by rw [← hρ]; simpa using g0
    have k1 : ρ2[1]? = some (some (.val (.int m))) := by rw [← hρ]; simpa using g1
    have k2 : ρ2[2]? = some (some (.val (.int ((told * 2147483629 + r : Nat) : Int)))) := by rw [← hρ]; simp [gl]
    have k3 : ρ2[3]? = some (some (.val (.int size))) := by rw [← hρ]; simpa using g3
    have kl : ρ2.length = 5 := by rw [← hρ]; simpa using gl
    clear hρ
    rw [seq_go (ρ1 := ρ2.set 3 (some (.val (.int ((size * 2147483629 : Nat) : Int))))) (st1 := st) (by simp [-getElem?_pos, k3, kl, m2])]
    generalize hρ : ρ2.set 3 (some (.val (.int ((size * 2147483629 : Nat) : Int)))) = ρ3
    have l0 : ρ3[0]? = some (some (.val (.ref s))) := by rw [← hρ]; simpa using k0
    have l1 : ρ3[1]? = some (some (.val (.int m))) := by rw [← hρ]; simpa using k1
    have l2 : ρ3[2]? = some (some (.val (.int ((told * 2147483629 + r : Nat) : Int)))) := by rw [← hρ]; simpa using k2
    have l3 : ρ3[3]? = some (some (.val (.int ((size * 2147483629 : Nat) : Int)))) := by rw [← hρ]; simp [kl]
    have ll : ρ3.length = 5 := by rw [← hρ]; simpa using kl
    clear hρ
    have x3 : sIx (sVar 0) (sC (.int 3)) ρ3 st = .ok (.int y.turn) st := ixR (n := s) 3 (by simp [-getElem?_pos, l0]) hy rfl
    refine sat_of (setR_go (n := s) (j := 3) (y := .int ((y.turn + 1 : Nat) : Int)) (xs := y.D) (by simp [-sIx_eq, x3]) (by simp [-getElem?_pos, l0]) (by simp) hy (by simp [S7.D])) ?_
    refine ⟨⟨⟨y.cells, y.pos, y.big, y.turn + 1, y.num, y.left, y.seed⟩, by rw [set_at hy]; rfl, ⟨oy.cells, oy.big, ?_, oy.num, oy.seed⟩⟩, hF.trans (Fr.set (by simp)), ll, l0, l1, _, _, l2, l3, ?_, ?_⟩
    · have := oy.turn
      show y.turn + 1 ≤ c + (i + 1)
      omega
    · rw [hp]; omega
    · rw [hp]; omega
  · rw [if_f (st1 := st) (by simp [-getElem?_pos, g1, g3]; omega)]
    refine sat_of (a := .nx ρ1) (st := st) (by simp) ?_
    refine ⟨⟨y, hy, ⟨oy.cells, oy.big, by have := oy.turn; omega, oy.num, oy.seed⟩⟩, hF, gl, g0, g1, told, size, g2, g3, ?_, ?_⟩
    · rw [hp]; omega
    · rw [hp]; omega
theorem take_loop {s m c : Nat} {st : Sto} {x : S7} {t4 : Option Sl} (h : st[s]? = some (some (.lst x.D))) (ho : x.ok c) (hc : c ≤ 2 ^ 64) : ∃ ρ' st', qFor (sItA r1D (sCons (sC (.int 6)) sNil)) (.nm 4) mixB [some (.val (.ref s)), some (.val (.int m)), some (.val (.int 0)), some (.val (.int 1)), t4] st = .ok (.nx ρ') st' ∧ TK s m st c 6 ρ' st' := by
  obtain ⟨ρ', st', e, hI⟩ := for_inv (step := stepT (.nm 4) mixB) (fun i ρ st' => i ≤ 6 → TK s m st c i ρ st') (rng 0 1 6) 0 [some (.val (.ref s)), some (.val (.int m)), some (.val (.int 0)), some (.val (.int 1)), t4] st
    (fun _ => ⟨⟨x, h, ho⟩, Fr.refl _ _, rfl, rfl, rfl, 0, 1, rfl, rfl, by simp, by simp⟩) (fun i d ρ st' hi hI => by
      obtain ⟨hi6, rfl⟩ := rng_at hi
      rw [Nat.zero_add] at *
      refine sat_mono (turn_take hi6 hc (hI (by omega))) fun fl st2 q => ?_
      cases fl with
      | nx ρ => exact fun _ => q
      | ct ρ => exact fun _ => q
      | rt r => exact q
      | bk r => exact q)
  refine ⟨ρ', st', for_go (r1_nat (n := 6) (by simp) (by omega)) e, hI (by simp [rng])⟩
/-- what is left to do once the store is filled -/
noncomputable def takeB : SS := (qSeq (qIf (c2 (ordD false true) (sIx (sVar 0) (sC (.int 2))) (sV (sC (.int 1)))) (qSeq (qSet 2 (s2 modD (s1 intD (sV (sIx (sVar 0) (sC (.int 2))))) (sVar 1))) (qSeq (qSetR (s2 divD (sIx (sVar 0) (sC (.int 2))) (sVar 1)) (sVar 0) (sC (.int 2))) (qRet (sVar 2)))) qNil) (qSeq (qSetR (s2 subD (sIx (sVar 0) (sC (.int 5))) (sC (.int 1))) (sVar 0) (sC (.int 5))) (qSeq (qSet 2 (sC (.int 0))) (qSeq (qSet 3 (sC (.int 1))) (qSeq (qFor (sItA r1D (sCons (sC (.int 6)) sNil)) (.nm 4) mixB) (qRet (s2 modD (s1 intD (sV (sVar 2))) (sVar 1))))))))
theorem f_takeB {s m c : Nat} {st : Sto} {x : S7} (h : st[s]? = some (some (.lst x.D))) (ho : x.ok c) (hc : c ≤ 2 ^ 64) (hm : 2 ≤ m) (hm2 : m < 2 ^ 64) : ∃ (t : Nat) (st' : Sto), takeB [some (.val (.ref s)), some (.val (.int m)), none, none, none] st = .ok (.rt (.val (.int t))) st' ∧ t < m ∧ GS st' s (c + 6) ∧ Fr [s] st st' := by
  have x2 : ∀ ρ : En, ρ[0]? = some (some (.val (.ref s))) → sIx (sVar 0) (sC (.int 2)) ρ st = .ok (.int x.big) st := fun ρ hρ => ixR (n := s) 2 (by simp [hρ]) h rfl
  unfold takeB
  by_cases hb : 1 < x.big
  · obtain ⟨t, e, ht⟩ := mod_nat (x.big : Int) (m := m) (by omega)
    refine ⟨t, st.set s (some (.lst (x.D.set 2 (.int ((x.big / m : Nat) : Int))))), ?_, ht, ⟨⟨x.cells, x.pos, x.big / m, x.turn, x.num, x.left, x.seed⟩, by rw [set_at h]; rfl, ⟨ho.cells, Nat.lt_of_le_of_lt (Nat.div_le_self _ _) ho.big, Nat.le_trans ho.turn (by omega), ho.num, ho.seed⟩⟩, Fr.set (by simp)⟩
    have e1 : qIf (c2 (ordD false true) (sIx (sVar 0) (sC (.int 2))) (sV (sC (.int 1)))) (qSeq (qSet 2 (s2 modD (Ds.s1 intD (sV (sIx (sVar 0) (sC (.int 2))))) (sVar 1))) (qSeq (qSetR (s2 divD (sIx (sVar 0) (sC (.int 2))) (sVar 1)) (sVar 0) (sC (.int 2))) (qRet (sVar 2)))) qNil [some (.val (.ref s)), some (.val (.int m)), none, none, none] st = .ok (.rt (.val (.int t))) (st.set s (some (.lst (x.D.set 2 (.int ((x.big / m : Nat) : Int)))))) := by
      rw [if_t (st1 := st) (by simp [-sIx_eq, x2]; omega)]
      rw [seq_go (ρ1 := [some (.val (.ref s)), some (.val (.int m)), some (.val (.int t)), none, none]) (st1 := st) (by
        rw [← e]
        simp [-sIx_eq, x2, intD_i, modD_ii (show (0 : Int) < m by omega)])]
      have d1 : divD (.int x.big) (.int m) st = .ok (.int ((x.big : Int) / m)) st := divD_ii (k := 64) (by omega) (by omega) (by rw [Int.natAbs_natCast]; exact hm2) (by omega)
      rw [setR_sat (n := s) (j := 2) (y := .int ((x.big / m : Nat) : Int)) (xs := x.D) (by simp [-sIx_eq, x2, d1]) (by simp) (by simp) h (by simp [S7.D])]
      simp
    rw [qSeq_eq, e1, seqK_rt]
  · have x5 : ∀ ρ : En, ρ[0]? = some (some (.val (.ref s))) → sIx (sVar 0) (sC (.int 5)) ρ st = .ok (.int x.left) st := fun ρ hρ => ixR (n := s) 5 (by simp [hρ]) h rfl
    rw [seq_go (ρ1 := [some (.val (.ref s)), some (.val (.int m)), none, none, none]) (st1 := st) (by rw [if_f (st1 := st) (by simp [-sIx_eq, x2]; omega)]; simp)]
    rw [setR_sat (n := s) (j := 5) (y := .int (x.left - 1)) (xs := x.D) (by simp [-sIx_eq, x5]) (by simp) (by simp) h (by simp [S7.D])]
    generalize hst : st.set s (some (.lst (x.D.set 5 (.int (x.left - 1))))) = st1
    have h1 : st1[s]? = some (some (.lst (S7.D ⟨x.cells, x.pos, x.big, x.turn, x.num, x.left - 1, x.seed⟩))) := by rw [← hst, set_at h]; rfl
    have hF1 : Fr [s] st st1 := by rw [← hst]; exact Fr.set (by simp)
    rw [seq_go (ρ1 := [some (.val (.ref s)), some (.val (.int m)), some (.val (.int 0)), none, none]) (st1 := st1) (by simp)]
    rw [seq_go (ρ1 := [some (.val (.ref s)), some (.val (.int m)), some (.val (.int 0)), some (.val (.int 1)), none]) (st1 := st1) (by simp)]
    obtain ⟨ρ', st', e, ⟨y, hy, oy⟩, hF, hl, h0, h1', told, size, h2, h3, ht, hz⟩ := take_loop (m := m) (t4 := none) h1 (c := c) ⟨ho.cells, ho.big, ho.turn, ho.num, ho.seed⟩ hc
    obtain ⟨t, et, htm⟩ := mod_nat (told : Int) (m := m) (by omega)
    rw [seq_go e]
    refine ⟨t, st', ?_, htm, ⟨y, hy, oy⟩, hF1.trans hF⟩
    rw [← et]
    simp [-getElem?_pos, h2, h1', intD_i, modD_ii (show (0 : Int) < m by omega)]
/-- a number drawn -/
theorem f_take {s m c : Nat} {st : Sto} (g : GS st s c) (hc : c ≤ 2 ^ 64) (hm2 : m < 2 ^ 64) : ∃ (t : Nat) (st' : Sto), F__law_take [.ref s, .int m] st = .ok (.val (.int t)) st' ∧ t < max m 1 ∧ GS st' s (c + 6) ∧ Fr [s] st st' := by
  obtain ⟨x, h, ho⟩ := id g
  by_cases hm : m < 2
  · refine ⟨0, st, ?_, by omega, g.mono (by omega), Fr.refl _ _⟩
    have : (m : Int) < 2 := by omega
    unfold F__law_take B__law_take
    simp [this]
  · have body : ∃ (t : Nat) (st' : Sto), B__law_take [some (.val (.ref s)), some (.val (.int m)), none, none, none] st = .ok (.rt (.val (.int t))) st' ∧ t < m ∧ GS st' s (c + 6) ∧ Fr [s] st st' := by
      unfold B__law_take
      have hm' : ¬ (m : Int) < 2 := by omega
      rw [seq_go (ρ1 := [some (.val (.ref s)), some (.val (.int m)), none, none, none]) (st1 := st) (by simp [hm'])]
      have x2 : ∀ ρ : En, ρ[0]? = some (some (.val (.ref s))) → sIx (sVar 0) (sC (.int 2)) ρ st = .ok (.int x.big) st := fun ρ hρ => ixR (n := s) 2 (by simp [hρ]) h rfl
      have x5 : ∀ ρ : En, ρ[0]? = some (some (.val (.ref s))) → sIx (sVar 0) (sC (.int 5)) ρ st = .ok (.int x.left) st := fun ρ hρ => ixR (n := s) 5 (by simp [hρ]) h rfl
      by_cases hr : x.big < 2 ∧ x.left < 1
      · obtain ⟨y, ey, oy⟩ := f_refill h ho
        rw [seq_go (ρ1 := [some (.val (.ref s)), some (.val (.int m)), none, none, none]) (st1 := st.set s (some (.lst y.D))) (by
          rw [if_t (st1 := st) (by
            have : (x.big : Int) < 2 := by omega
            simp [-sIx_eq, x2, x5, this, hr.2])]
          simp [ey])]
        obtain ⟨t, st', e, ht, g', hF⟩ := f_takeB (set_at h) oy hc (by omega) hm2
        unfold takeB mixB at e
        exact ⟨t, st', e, ht, g', (Fr.set (by simp)).trans hF⟩
      · rw [seq_go (ρ1 := [some (.val (.ref s)), some (.val (.int m)), none, none, none]) (st1 := st) (by
          rw [if_f (st1 := st) (by
            by_cases hb : x.big < 2
            · have h1 : (x.big : Int) < 2 := by omega
              have h2 : ¬ x.left < 1 := fun z => hr ⟨hb, z⟩
              simp [-sIx_eq, x2, x5, h1, h2]
            · have h1 : ¬ (x.big : Int) < 2 := by omega
              simp [-sIx_eq, x2, x5, h1])]
          simp)]
        obtain ⟨t, st', e, ht, g', hF⟩ := f_takeB h ho hc (by omega) hm2
        unfold takeB mixB at e
        exact ⟨t, st', e, ht, g', hF⟩
    obtain ⟨t, st', e, ht, g', hF⟩ := body
    refine ⟨t, st', ?_, by omega, g', hF⟩
    unfold F__law_take
    simp [e]
end KP
set_option Elab.async false
set_option linter.all false
set_option maxRecDepth 100000
set_option maxHeartbeats 1000000
set_option autoImplicit false
set_option exponentiation.threshold 5000
/-! RC: the plain law: _law_pick, _law_store. -/
namespace KP
open PySem PySem.Spec PyProof.Rows L2 Ds KG
theorem pick_go {s c n : Nat} {d e : D} {st : Sto} {P : Nat → D → Prop} (g : GS st s c) (hc : c ≤ 2 ^ 64) (h1 : 1 ≤ n) (hn : n < 2 ^ 64) (hd : derefD d st = .ok e st) (hl : lenD e st = .ok (.int n) st)
    (hi : ∀ t st', t < n → Fr [s] st st' → ∃ y, derefD d st' = .ok e st' ∧ idxD e (.int (t : Nat)) st' = .ok y st' ∧ P t y) :
    ∃ (t : Nat) (y : D) (st' : Sto), F__law_pick [.ref s, d] st = .ok (.val y) st' ∧ t < n ∧ P t y ∧ GS st' s (c + 6) ∧ Fr [s] st st' := by
  have he : derefD (.int n) st = .ok (.int n) st := rfl
  obtain ⟨t, st', e1, ht, g', hF⟩ := f_take (m := n) g hc hn
  have ht' : t < n := by omega
  obtain ⟨y, y1, y2, y3⟩ := hi t st' ht' hF
  refine ⟨t, y, st', ?_, ht', y3, g', hF⟩
  unfold F__law_pick B__law_pick
  simp [hd, hl, e1, y1, y2]
theorem pick_lst {s c : Nat} {xs : List D} {st : Sto} (g : GS st s c) (hc : c ≤ 2 ^ 64) (h1 : xs ≠ []) (hn : xs.length < 2 ^ 64) :
    ∃ (y : D) (st' : Sto), F__law_pick [.ref s, .lst xs] st = .ok (.val y) st' ∧ y ∈ xs ∧ GS st' s (c + 6) ∧ Fr [s] st st' := by
  obtain ⟨t, y, st', e, ht, hy, g', hF⟩ := pick_go (n := xs.length) (d := .lst xs) (e := .lst xs) (P := fun t y => xs[t]? = some y) g hc (by
    cases xs with
    | nil => exact absurd rfl h1
    | cons => simp) hn rfl rfl (fun t st' ht _ => ⟨xs[t], rfl, idx_lst (List.getElem?_eq_getElem ht), List.getElem?_eq_getElem ht⟩)
  exact ⟨y, st', e, List.mem_of_getElem? hy, g', hF⟩
theorem pick_ref {s c p : Nat} {xs : List D} {st : Sto} (g : GS st s c) (hc : c ≤ 2 ^ 64) (hp : st[p]? = some (some (.lst xs))) (hps : p ≠ s) (h1 : xs ≠ []) (hn : xs.length < 2 ^ 64) :
    ∃ (y : D) (st' : Sto), F__law_pick [.ref s, .ref p] st = .ok (.val y) st' ∧ y ∈ xs ∧ GS st' s (c + 6) ∧ Fr [s] st st' := by
  obtain ⟨t, y, st', e, ht, hy, g', hF⟩ := pick_go (n := xs.length) (d := .ref p) (e := .lst xs) (P := fun t y => xs[t]? = some y) g hc (by
    cases xs with
    | nil => exact absurd rfl h1
    | cons => simp) hn (derefD_ref hp) rfl (fun t st' ht hF => ⟨xs[t], derefD_ref (by rw [hF.2 p (List.getElem?_eq_some_iff.mp hp).1 (by simpa using hps)]; exact hp), idx_lst (List.getElem?_eq_getElem ht), List.getElem?_eq_getElem ht⟩)
  exact ⟨y, st', e, List.mem_of_getElem? hy, g', hF⟩
theorem idx_str {z : Str} {c t : Nat} {st : Sto} (h : z.cps.toList[t]? = some c) (hl : z.length ≤ 1000) : idxD (.str z) (.int t) st = .ok (.str ⟨#[c]⟩) st := by
  have ht := (List.getElem?_eq_some_iff.mp h).1
  have e : atI z.cps.toList (t : Int) = some c := by
    unfold atI ixN
    simp only [Array.length_toList] at ht
    simp [ht]
    have := (List.getElem?_eq_some_iff.mp h).2
    simpa using this
  show (if z.length ≤ sizeLine then (match atI z.cps.toList (t : Int) with | some c => Out.ok (D.str ⟨#[c]⟩) st | none => .bad) else .bad) = _
  rw [if_pos (smallLine hl), e]
theorem pick_str {s c : Nat} {z : Str} {st : Sto} (g : GS st s c) (hc : c ≤ 2 ^ 64) (h1 : z.cps.toList ≠ []) (hn : z.length ≤ 1000) :
    ∃ (u : Nat) (st' : Sto), F__law_pick [.ref s, .str z] st = .ok (.val (.str ⟨#[u]⟩)) st' ∧ u ∈ z.cps.toList ∧ GS st' s (c + 6) ∧ Fr [s] st st' := by
  have hz : z.cps.toList.length = z.length := Array.length_toList
  obtain ⟨t, y, st', e, ht, ⟨u, hu, hy⟩, g', hF⟩ := pick_go (n := z.length) (d := .str z) (e := .str z) (P := fun t y => ∃ u, z.cps.toList[t]? = some u ∧ y = .str ⟨#[u]⟩) g hc (by
    cases hq : z.cps.toList with
    | nil => exact absurd hq h1
    | cons => rw [← hz, hq]; simp) (by omega) rfl (lenD_str hn) (fun t st' ht _ => by
      have hu := List.getElem?_eq_getElem (l := z.cps.toList) (i := t) (by omega)
      exact ⟨_, rfl, idx_str hu hn, _, hu, rfl⟩)
  subst hy
  exact ⟨u, st', e, List.mem_of_getElem? hu, g', hF⟩
/-! ### _law_store -/
theorem top_lt : (10 : Nat) ^ 600 < 2 ^ 2000 := by decide +kernel
theorem take_fz {xs : List D} {n : Nat} {st : Sto} : sliceD (.fz xs) none (some (n : Int)) st = .ok (.lst (xs.take n)) st := by
  show Out.ok (D.lst (cutL xs none (some (n : Int)))) st = _
  rw [cut_takeI]
noncomputable def bodyC : SS := (qSeq (qSet 5 (s2 modD (s1 intD (sV (s1 absD (sV (sVar 4))))) (sVar 1))) (qSeq (qSet 6 (s1 intD (sV (sB (c2 (ordD false false) (sVar 4) (sV (sC (.int 0)))))))) (qSeq (qM 2 kApp (sCons (sTup (sCons (sVar 5) (sCons (sVar 6) sNil))) sNil)) (qSet 3 (s2 modD (s1 intD (sV (s2 addD (s2 addD (s2 addD (s2 mulD (sVar 3) (sC (.int 48271))) (s2 mulD (s2 modD (s1 intD (sV (sVar 5))) (sC (.int 2147483647))) (sC (.int 2)))) (sVar 6)) (sC (.int 1))))) (sC (.int 2147483629)))))))
def CellOk (y : D) : Prop := ∃ a b : Nat, y = .tup [.int a, .int b] ∧ a < 2 ^ 2000 ∧ b ≤ 1
theorem turn_store {i : Int} {C : List D} {seed : Nat} {s0 s4 s5 s6 : Option Sl} {st : Sto} (hC : C.length ≤ 1000) (hs : seed < 2147483648) : ∃ (y : D) (sd : Nat) (t5 t6 : Option Sl), CellOk y ∧ sd < 2147483648 ∧
    stepT (.nm 4) bodyC (.int i) [s0, some (.val (.int ((10 : Nat) ^ 600 : Nat))), some (.own C), some (.val (.int seed)), s4, s5, s6] st = .ok (.nx [s0, some (.val (.int ((10 : Nat) ^ 600 : Nat))), some (.own (C ++ [y])), some (.val (.int sd)), some (.val (.int i)), t5, t6]) st := by
  have hT : 0 < (10 : Nat) ^ 600 := Nat.pow_pos (by omega)
  have hTl := top_lt
  generalize (10 : Nat) ^ 600 = T at *
  obtain ⟨a, ea, la⟩ := mod_nat (if i < 0 then -i else i) (m := T) hT
  obtain ⟨r, er, lr⟩ := mod_nat (a : Int) (m := 2147483647) (by omega)
  have hb : ∃ b : Nat, intD (.bl (decide (i < 0))) st = .ok (.int b) st ∧ b ≤ 1 := by
    by_cases h : i < 0
    · exact ⟨1, by simp [h, Ds.intD], Nat.le_refl _⟩
    · exact ⟨0, by simp [h, Ds.intD], by omega⟩
  obtain ⟨b, eb, lb⟩ := hb
  obtain ⟨sd, es, ls⟩ := mod_nat ((seed : Int) * 48271 + (r : Int) * 2 + (b : Int) + 1) (m := 2147483629) (by omega)
  have m1 : mulD (.int seed) (.int 48271) st = .ok (.int ((seed : Int) * 48271)) st := mulD_ok2 (k := 64) (m := 64) (by omega) (by omega) (by rw [Int.natAbs_natCast]; omega) (by decide) (by omega)
  have m2 : mulD (.int r) (.int 2) st = .ok (.int ((r : Int) * 2)) st := mulD_ok2 (k := 64) (m := 64) (by omega) (by omega) (by rw [Int.natAbs_natCast]; omega) (by decide) (by omega)
  have z : C.length < sizeLine := by rw [sizeLine_eq]; omega
  refine ⟨.tup [.int a, .int b], sd, some (.val (.int a)), some (.val (.int b)), ⟨a, b, rfl, by omega, lb⟩, by omega, ?_⟩
  rw [stepT_nm (by simp)]
  unfold bodyC
  have ab : absD (.int i) st = .ok (.int (if i < 0 then -i else i)) st := rfl
  rw [seq_go (ρ1 := [s0, some (.val (.int T)), some (.own C), some (.val (.int seed)), some (.val (.int i)), some (.val (.int a)), s6]) (st1 := st) (by
    rw [← ea]
    simp [ab, intD_i, modD_ii (show (0 : Int) < T by omega)])]
  rw [seq_go (ρ1 := [s0, some (.val (.int T)), some (.own C), some (.val (.int seed)), some (.val (.int i)), some (.val (.int a)), some (.val (.int b))]) (st1 := st) (by simp [eb])]
  rw [seq_go (ρ1 := [s0, some (.val (.int T)), some (.own (C ++ [.tup [.int a, .int b]])), some (.val (.int seed)), some (.val (.int i)), some (.val (.int a)), some (.val (.int b))]) (st1 := st) (by simp [smallLine, z])]
  rw [← es]
  have md : modD (.int a) (.int 2147483647) st = .ok (.int r) st := by rw [modD_ii (by omega)]; rw [← er]; rfl
  simp [m1, m2, md, intD_i, modD_ii]
theorem f_store {ns : List Int} {st : Sto} (h : ns.length ≤ 63) : ∃ x : S7, F__law_store [.fz (ns.map D.int)] st = .ok (.own x.D) st ∧ x.ok 0 := by
  have hTop : (10 : Int) ^ 60 ^ 1 = 10 ^ 60 := rfl
  obtain ⟨ρ', st', e, hI⟩ := for_inv (step := stepT (.nm 4) bodyC) (fun i ρ st' => st' = st ∧ ∃ (C : List D) (sd : Nat) (t4 t5 t6 : Option Sl), C.length = i ∧ (∀ y ∈ C, CellOk y) ∧ sd < 2147483648 ∧ ρ = [some (.val (.fz (ns.map D.int))), some (.val (.int ((10 : Nat) ^ 600 : Nat))), some (.own C), some (.val (.int sd)), t4, t5, t6]) (ns.map D.int) 0
    [some (.val (.fz (ns.map D.int))), some (.val (.int ((10 : Nat) ^ 600 : Nat))), some (.own []), some (.val (.int (11 : Nat))), none, none, none] st ⟨rfl, [], 11, none, none, none, rfl, by simp, by omega, rfl⟩ (fun i d ρ st' hi hI => by
      obtain ⟨rfl, C, sd, t4, t5, t6, hC, hy, hs, rfl⟩ := hI
      rw [List.getElem?_map] at hi
      cases hx : ns[i]? with
      | none => rw [hx] at hi; cases hi
      | some x =>
        rw [hx] at hi
        cases hi
        have hil := (List.getElem?_eq_some_iff.mp hx).1
        obtain ⟨y, sd', u5, u6, y1, y2, e⟩ := turn_store (i := x) (C := C) (seed := sd) (s0 := some (.val (.fz (ns.map D.int)))) (s4 := t4) (s5 := t5) (s6 := t6) (st := st') (by omega) hs
        refine sat_of e ⟨rfl, C ++ [y], sd', _, u5, u6, by simp [hC], fun w hw => ?_, y2, rfl⟩
        rcases List.mem_append.mp hw with h | h
        · exact hy w h
        · rw [List.mem_singleton.mp h]; exact y1)
  obtain ⟨rfl, C, sd, t4, t5, t6, hC, hy, hs, rfl⟩ := hI
  have hB : sd < BB := by
    have : (2 : Nat) ^ 2100 = 2147483648 * 2 ^ 2069 := by
      rw [show (2147483648 : Nat) = 2 ^ 31 from rfl, ← Nat.pow_add]
    have h2 : 0 < (2 : Nat) ^ 2069 := Nat.pow_pos (by omega)
    show sd < 2 ^ 2100
    rw [this]
    generalize (2 : Nat) ^ 2069 = Z at *
    have := Nat.mul_le_mul_left 2147483648 h2
    omega
  refine ⟨⟨C, 0, 0, 0, sd, 0, sd⟩, ?_, ⟨fun y h => hy y h, by show 0 < 2 ^ 2100; exact Nat.pow_pos (by omega), Nat.le_refl _, hB, hB⟩⟩
  have p1 : powWD (.int 10) (.int 60) st' = .ok (.int (10 ^ 60)) st' := powWD_ii (by decide +kernel)
  have p2 : powWD (.int (10 ^ 60)) (.int 10) st' = .ok (.int ((10 : Nat) ^ 600 : Nat)) st' := by
    rw [powWD_ii (by decide +kernel)]
    congr 2
  have sl : sliceD (.fz (ns.map D.int)) none (some 63) st' = .ok (.lst (ns.map D.int)) st' := by
    have := take_fz (xs := ns.map D.int) (n := 63) (st := st')
    rw [List.take_of_length_le (by rw [List.length_map]; exact h)] at this
    exact this
  have dz : derefD (.fz (ns.map D.int)) st' = .ok (.fz (ns.map D.int)) st' := rfl
  have b : B__law_store [some (.val (.fz (ns.map D.int))), none, none, none, none, none, none] st' = .ok (.rt (.own (S7.D ⟨C, 0, 0, 0, sd, 0, sd⟩))) st' := by
    unfold bodyC at e
    unfold B__law_store
    generalize (10 : Nat) ^ 600 = T at *
    rw [seq_go (ρ1 := [some (.val (.fz (ns.map D.int))), some (.val (.int T)), none, none, none, none, none]) (st1 := st') (by
      rw [qSet_eq, s2_eq, s2_eq, sC_eq, s2K_ok, sC_eq, s2K'_ok, p1, s2K_ok, sC_eq, s2K'_ok, p2]
      simp)]
    rw [seq_go (ρ1 := [some (.val (.fz (ns.map D.int))), some (.val (.int T)), some (.own []), none, none, none, none]) (st1 := st') (by simp [smallLine])]
    rw [seq_go (ρ1 := [some (.val (.fz (ns.map D.int))), some (.val (.int T)), some (.own []), some (.val (.int (11 : Nat))), none, none, none]) (st1 := st') (by simp)]
    rw [seq_go (for_go (by simp [dz, sl]) e)]
    simp [smallLine, S7.D]
  unfold F__law_store
  simp [b]
end KP
set_option Elab.async false
set_option linter.all false
set_option maxRecDepth 100000
set_option maxHeartbeats 1000000
set_option autoImplicit false
set_option exponentiation.threshold 5000
/-! RD: the plain law: _law_name, _law_unlike_name. -/
namespace KP
open PySem PySem.Spec PyProof.Rows L2 Ds KG
theorem seq_rt {q r : SS} {ρ : En} {st st1 : Sto} {v : SV} (h : q ρ st = .ok (.rt v) st1) : qSeq q r ρ st = .ok (.rt v) st1 := by rw [qSeq_eq, h, seqK_rt]
theorem f_takeI {s c : Nat} {m : Int} {st : Sto} (g : GS st s c) (hc : c ≤ 2 ^ 64) (h0 : 0 ≤ m) (hm2 : m < 1000000) : ∃ (t : Nat) (st' : Sto), F__law_take [.ref s, .int m] st = .ok (.val (.int t)) st' ∧ (t : Int) < max m 1 ∧ GS st' s (c + 6) ∧ Fr [s] st st' := by
  obtain ⟨t, st', e, ht, g', hF⟩ := f_take (m := m.toNat) g hc (by omega)
  rw [show ((m.toNat : Nat) : Int) = m from by omega] at e
  exact ⟨t, st', e, by omega, g', hF⟩
/-! ### texts -/
theorem app_list (a b : Str) : (a ++ b).cps.toList = a.cps.toList ++ b.cps.toList := by
  show (a.cps ++ b.cps).toList = _
  rw [Array.toList_append]
theorem len_list (a : Str) : a.length = a.cps.toList.length := Array.length_toList.symm
theorem starts_signs : ∀ c ∈ startsS.cps.toList, c ∈ signsS.cps.toList := by decide +kernel
theorem good_one {u : Nat} (h : u ∈ startsS.cps.toList) : GoodName ⟨#[u]⟩ := ⟨by show 1 ≤ 8; omega, ⟨u, [], rfl, h⟩, fun c hc => by
  have : c = u := by simpa using hc
  rw [this]
  exact starts_signs u h⟩
theorem good_app {a b : Str} (h : GoodName a) (hb : ∀ c ∈ b.cps.toList, c ∈ signsS.cps.toList) (hl : a.length + b.length ≤ 8) : GoodName (a ++ b) := by
  obtain ⟨h1, ⟨c, r, h2, h3⟩, h4⟩ := h
  refine ⟨by rw [str_app]; exact hl, ⟨c, r ++ b.cps.toList, by rw [app_list, h2]; rfl, h3⟩, fun x hx => ?_⟩
  rw [app_list] at hx
  rcases List.mem_append.mp hx with h | h
  · exact h4 x h
  · exact hb x h
theorem fold_rep (u : Nat) : ∀ (n : Nat) (acc : Array Nat), ((List.replicate n #[u]).foldl (· ++ ·) acc).toList = acc.toList ++ List.replicate n u
  | 0, acc => by simp
  | n + 1, acc => by
    rw [List.replicate_succ, List.foldl_cons, fold_rep u n, Array.toList_append]
    simp [List.replicate_succ]
theorem mulS_list {u n : Nat} (h : 1 ≤ n) : (mulS ⟨#[u]⟩ n).cps.toList = List.replicate n u := by
  unfold mulS
  by_cases h1 : n = 1
  · subst h1
    rfl
  · have : ((n == 1 || (⟨#[u]⟩ : Str).length == 0) = true) ↔ False := by
      have : (⟨#[u]⟩ : Str).length = 1 := rfl
      simp [this, h1]
    rw [if_neg (by rw [this]; exact id)]
    have := fold_rep u n #[]
    simpa using this
theorem good_rep {u n : Nat} (h : u ∈ startsS.cps.toList) (h1 : 1 ≤ n) (h8 : n ≤ 8) : GoodName (mulS ⟨#[u]⟩ n) := by
  have e := mulS_list (u := u) h1
  refine ⟨by rw [len_list, e, List.length_replicate]; exact h8, ⟨u, List.replicate (n - 1) u, ?_, h⟩, fun c hc => ?_⟩
  · rw [e, show n = n - 1 + 1 from by omega, List.replicate_succ]; rfl
  · rw [e] at hc
    rw [(List.mem_replicate.mp hc).2]
    exact starts_signs u h
instance {z : Str} : Decidable (GoodName z) := by
  refine decidable_of_iff (z.length ≤ 8 ∧ (match z.cps.toList with | c :: _ => decide (c ∈ startsS.cps.toList) | [] => false) = true ∧ ∀ c ∈ z.cps.toList, c ∈ signsS.cps.toList) ?_
  constructor
  · rintro ⟨h1, h2, h3⟩
    refine ⟨h1, ?_, h3⟩
    cases hz : z.cps.toList with
    | nil => rw [hz] at h2; cases h2
    | cons c r => rw [hz] at h2; exact ⟨c, r, rfl, of_decide_eq_true h2⟩
  · rintro ⟨h1, ⟨c, r, h2, h3⟩, h4⟩
    refine ⟨h1, ?_, h4⟩
    rw [h2]
    exact decide_eq_true h3
def known : List Str := ["a", "b", "h", "ab", "abcdefgh", "new", "table", "row", "choice", "list", "turned", "use", "first", "last", "all", "is", "from", "begins", "right", "wrong", "none", "some", "l1", "d0", "z9"]
theorem known_good : ∀ z ∈ known, GoodName z := by decide +kernel
def sizes12 : List Nat := [1, 2, 3, 4, 5, 6, 7, 8, 1, 2, 2, 3]
theorem sizes12_ok : ∀ n ∈ sizes12, 1 ≤ n ∧ n ≤ 8 := by decide
theorem signs_len : signsS.cps.toList.length = 36 := by decide +kernel
theorem signs_low : ∀ t, t < 26 → ∀ c, signsS.cps.toList[t]? = some c → c ∈ startsS.cps.toList := by decide +kernel
theorem signs_at {t : Nat} (h : t < 36) (st : Sto) : ∃ u, signsS.cps.toList[t]? = some u ∧ u ∈ signsS.cps.toList ∧ idxD (.str signsS) (.int t) st = .ok (.str ⟨#[u]⟩) st := by
  have e := List.getElem?_eq_getElem (l := signsS.cps.toList) (i := t) (by rw [signs_len]; exact h)
  exact ⟨_, e, List.mem_of_getElem? e, idx_str e (by rw [len_list, signs_len]; omega)⟩
theorem addD_ss {a b : Str} {st : Sto} (h : a.length + b.length ≤ 1000) : addD (.str a) (.str b) st = .ok (.str (a ++ b)) st := by
  show (if _ then _ else _) = _
  rw [if_pos (smallLine h)]
/-- a name drawn -/
theorem f_lname {s c : Nat} {st : Sto} (g : GS st s c) (hc : c ≤ 2 ^ 63) : ∃ (z : Str) (st' : Sto), F__law_name [.ref s] st = .ok (.val (.str z)) st' ∧ GoodName z ∧ GS st' s (c + 100) ∧ Fr [s] st st' := by
  suffices b : ∃ (z : Str) (st' : Sto), B__law_name [some (.val (.ref s)), none, none, none, none, none] st = .ok (.rt (.val (.str z))) st' ∧ GoodName z ∧ GS st' s (c + 100) ∧ Fr [s] st st' by
    obtain ⟨z, st', e, h⟩ := b
    refine ⟨z, st', ?_, h⟩
    unfold F__law_name
    simp [e]
  obtain ⟨t1, st1, e1, l1, g1, F1⟩ := f_takeI (m := 5) g (by omega) (by omega) (by omega)
  unfold B__law_name
  rw [seq_go (ρ1 := [some (.val (.ref s)), some (.val (.str signsS)), none, none, none, none]) (st1 := st) (by simp)]
  by_cases h1 : t1 = 0
  · subst h1
    obtain ⟨y, st2, e2, hy, g2, F2⟩ := pick_lst (xs := known.map .str) g1 (by omega) (by simp [known]) (by simp [known])
    obtain ⟨z, hz, rfl⟩ := List.mem_map.mp hy
    refine ⟨z, st2, ?_, known_good z hz, g2.mono (by omega), F1.trans F2⟩
    refine seq_rt ?_
    rw [if_t (st1 := st1) (by simp [e1, eqD_int])]
    rw [seq_go (ρ1 := [some (.val (.ref s)), some (.val (.str signsS)), none, none, none, some (.val (.lst ((known.take 13).map .str)))]) (st1 := st1) (by simp [known, smallLine])]
    rw [seq_go (ρ1 := [some (.val (.ref s)), some (.val (.str signsS)), none, none, none, some (.val (.lst (known.map .str)))]) (st1 := st1) (by simp [known, smallLine, addD_lst])]
    simp [e2]
  · have h1' : ¬ (t1 : Int) = 0 := by omega
    rw [seq_go (ρ1 := [some (.val (.ref s)), some (.val (.str signsS)), none, none, none, none]) (st1 := st1) (by
      rw [if_f (st1 := st1) (by simp [e1, eqD_int, h1])]
      simp)]
    obtain ⟨t2, st2, e2, l2, g2, F2⟩ := f_takeI (m := 12) g1 (by omega) (by omega) (by omega)
    obtain ⟨n, hn⟩ : ∃ n, sizes12[t2]? = some n := ⟨_, List.getElem?_eq_getElem (show t2 < sizes12.length by simp [sizes12]; omega)⟩
    obtain ⟨n1, n8⟩ := sizes12_ok n (List.mem_of_getElem? hn)
    have i2 : idxD (.lst (sizes12.map fun (n : Nat) => D.int n)) (.int t2) st2 = .ok (.int n) st2 := idx_lst (by rw [List.getElem?_map, hn]; rfl)
    have i2' : idxD (.lst [.int 1, .int 2, .int 3, .int 4, .int 5, .int 6, .int 7, .int 8, .int 1, .int 2, .int 2, .int 3]) (.int t2) st2 = .ok (.int n) st2 := i2
    rw [seq_go (ρ1 := [some (.val (.ref s)), some (.val (.str signsS)), some (.val (.int n)), none, none, none]) (st1 := st2) (by simp [e2, smallLine, i2'])]
    obtain ⟨t3, st3, e3, l3, g3, F3⟩ := f_takeI (m := 26) g2 (by omega) (by omega) (by omega)
    obtain ⟨u, hu, hus, i3⟩ := signs_at (t := t3) (by omega) st3
    have hu0 := signs_low t3 (by omega) u hu
    rw [seq_go (ρ1 := [some (.val (.ref s)), some (.val (.str signsS)), some (.val (.int n)), some (.val (.str ⟨#[u]⟩)), none, none]) (st1 := st3) (by simp [e3, i3])]
    obtain ⟨t4, st4, e4, l4, g4, F4⟩ := f_takeI (m := 8) g3 (by omega) (by omega) (by omega)
    have F14 := ((F1.trans F2).trans F3).trans F4
    by_cases h4 : t4 = 0
    · subst h4
      refine ⟨mulS ⟨#[u]⟩ n, st4, ?_, good_rep hu0 n1 n8, g4.mono (by omega), F14⟩
      refine seq_rt ?_
      have em : mulSD (.str ⟨#[u]⟩) (.int n) st4 = .ok (.str (mulS ⟨#[u]⟩ n)) st4 := by
        show (if _ then _ else _) = _
        rw [if_pos ⟨by omega, by omega, by show 1 ≤ 1000; omega⟩, Int.toNat_natCast]
      rw [if_t (st1 := st4) (by simp [e4, eqD_int])]
      simp [em]
    · have h4' : ¬ (t4 : Int) = 0 := by omega
      rw [seq_go (ρ1 := [some (.val (.ref s)), some (.val (.str signsS)), some (.val (.int n)), some (.val (.str ⟨#[u]⟩)), none, none]) (st1 := st4) (by
        rw [if_f (st1 := st4) (by simp [e4, eqD_int, h4])]
        simp)]
      obtain ⟨ρ', st5, e5, hI⟩ := for_inv (step := stepT (.nm 4) (qSet 3 (s2 addD (sVar 3) (sIx (sVar 1) (sCall F__law_take [] (sCons (sVar 0) (sCons (sC (.int 36)) sNil))))))) (fun i ρ st' => ∃ (z : Str) (x4 : Option Sl), z.length = 1 + i ∧ (i ≤ n - 1 → GoodName z) ∧ GS st' s (c + 24 + 6 * i) ∧ Fr [s] st4 st' ∧ ρ = [some (.val (.ref s)), some (.val (.str signsS)), some (.val (.int n)), some (.val (.str z)), x4, none]) (rng 0 1 (n - 1)) 0
        [some (.val (.ref s)), some (.val (.str signsS)), some (.val (.int n)), some (.val (.str ⟨#[u]⟩)), none, none] st4 ⟨_, none, rfl, fun _ => good_one hu0, g4.mono (by omega), Fr.refl _ _, rfl⟩ (fun i d ρ st' hi hI => by
          obtain ⟨z, x4, hz, hgz, g', F', rfl⟩ := hI
          obtain ⟨hi2, rfl⟩ := rng_at hi
          rw [Nat.zero_add] at *
          obtain ⟨t, st6, e6, l6, g6, F6⟩ := f_takeI (m := 36) g' (by omega) (by omega) (by omega)
          obtain ⟨v, hv, hvs, i6⟩ := signs_at (t := t) (by omega) st6
          have ea := addD_ss (a := z) (b := ⟨#[v]⟩) (st := st6) (by show z.length + 1 ≤ 1000; omega)
          rw [stepT_nm (by simp)]
          refine sat_of (a := .nx [some (.val (.ref s)), some (.val (.str signsS)), some (.val (.int n)), some (.val (.str (z ++ ⟨#[v]⟩))), some (.val (.int i)), none]) (st := st6) (by simp [e6, i6, ea]) ?_
          refine ⟨_, _, by rw [str_app, hz]; show 1 + i + 1 = _; omega, fun hi => good_app (hgz (by omega)) (fun c hc => ?_) (by rw [hz]; show 1 + i + 1 ≤ 8; omega), g6.mono (by omega), F'.trans F6, rfl⟩
          have : c = v := by simpa using hc
          rw [this]; exact hvs)
      obtain ⟨z, x4, hz, hgz, g5, F5, rfl⟩ := hI
      have el : (rng 0 1 (n - 1)).length = n - 1 := by unfold rng; rw [List.length_map, List.length_range]
      rw [Nat.zero_add, el] at hz hgz g5
      have er : sItA r1D (sCons (s2 subD (sVar 2) (sC (.int 1))) sNil) [some (.val (.ref s)), some (.val (.str signsS)), some (.val (.int n)), some (.val (.str ⟨#[u]⟩)), none, none] st4 = .ok (.fix (rng 0 1 (n - 1))) st4 := by
        refine r1_nat (n := n - 1) ?_ (by omega)
        simp
        omega
      rw [seq_go (for_go er e5)]
      exact ⟨z, st5, by simp, hgz (by omega), g5.mono (by omega), F14.trans F5⟩
end KP
set_option Elab.async false
set_option linter.all false
set_option maxRecDepth 100000
set_option maxHeartbeats 1000000
set_option autoImplicit false
set_option exponentiation.threshold 5000
/-! RE: the plain law: _law_unlike_name, _law_pool_names. -/
namespace KP
open PySem PySem.Spec PyProof.Rows L2 Ds KG
/-- a loop that hands back at the first item that it looks for -/
theorem for_first {step : D → SS} {st : Sto} (I : En → Prop) (p : D → Bool) (v : D → SV) : ∀ (ds : List D) (ρ : En), I ρ → (∀ d ∈ ds, ∀ ρ, I ρ → p d = true → step d ρ st = .ok (.rt (v d)) st) →
    (∀ d ∈ ds, ∀ ρ, I ρ → p d = false → ∃ ρ', step d ρ st = .ok (.nx ρ') st ∧ I ρ') → (∃ d ∈ ds, p d = true) → ∃ d ∈ ds, p d = true ∧ forL step ds ρ st = .ok (.rt (v d)) st
  | [], ρ, _, _, _, h => by obtain ⟨d, hd, _⟩ := h; cases hd
  | d :: ds, ρ, hI, h1, h2, h => by
    cases hp : p d with
    | true =>
      refine ⟨d, List.mem_cons_self, hp, ?_⟩
      show (step d ρ st).bind _ = _
      rw [h1 d List.mem_cons_self ρ hI hp]; rfl
    | false =>
      obtain ⟨ρ', e, hI'⟩ := h2 d List.mem_cons_self ρ hI hp
      obtain ⟨x, hx, px, ex⟩ := for_first I p v ds ρ' hI' (fun y hy => h1 y (List.mem_cons_of_mem _ hy)) (fun y hy => h2 y (List.mem_cons_of_mem _ hy)) (by
        obtain ⟨x, hx, px⟩ := h
        rcases List.mem_cons.mp hx with rfl | hx
        · rw [hp] at px; cases px
        · exact ⟨x, hx, px⟩)
      refine ⟨x, List.mem_cons_of_mem _ hx, px, ?_⟩
      show (step d ρ st).bind _ = _
      rw [e]
      exact ex
/-! ### another name -/
def dig (k : Nat) : Str := (toString (k : Int) : String)
theorem dig_ok : ∀ k, k < 11 → (dig k).length ≤ 2 ∧ ∀ c ∈ (dig k).cps.toList, c ∈ signsS.cps.toList := by decide +kernel
theorem dig_inj : ∀ j, j < 11 → ∀ k, k < 11 → (dig j).cps.toList = (dig k).cps.toList → j = k := by decide +kernel
def cand (z : Str) (k : Nat) : Str := cutS z none (some 6) ++ dig k
theorem cut6 (z : Str) : (cutS z none (some 6)).cps.toList = z.cps.toList.take 6 := by
  have h : cutS z none (some ((6 : Nat) : Int)) = ⟨(cutL z.cps.toList none (some ((6 : Nat) : Int))).toArray⟩ := by
    unfold cutS cutL
    rw [len_list]
  have h2 : cutS z none (some 6) = ⟨(cutL z.cps.toList none (some ((6 : Nat) : Int))).toArray⟩ := h
  rw [h2, cut_takeI]
theorem cand_good {z : Str} {k : Nat} (h : GoodName z) (hk : k < 11) : GoodName (cand z k) := by
  obtain ⟨h1, ⟨c, r, h2, h3⟩, h4⟩ := h
  obtain ⟨d1, d2⟩ := dig_ok k hk
  have hl : (cutS z none (some 6)).length ≤ 6 := by
    rw [len_list, cut6, List.length_take]
    omega
  refine good_app ⟨by omega, ⟨c, r.take 5, by rw [cut6, h2]; rfl, h3⟩, fun x hx => ?_⟩ d2 (by omega)
  rw [cut6] at hx
  exact h4 x (List.mem_of_mem_take hx)
theorem cand_inj {z : Str} {j k : Nat} (hj : j < 11) (hk : k < 11) (h : cand z j = cand z k) : j = k := by
  have := congrArg (fun s : Str => s.cps.toList) h
  unfold cand at this
  simp only [app_list] at this
  exact dig_inj j hj k hk (List.append_cancel_left this)
theorem cand_new {z : Str} {ns : List Str} (h : ns.length ≤ 10) : ∃ k, k < ns.length + 1 ∧ cand z k ∉ ns := by
  refine Classical.byContradiction fun q => ?_
  have hall : ∀ k, k < ns.length + 1 → cand z k ∈ ns := fun k hk => Classical.byContradiction fun hn => q ⟨k, hk, hn⟩
  have := length_le_of_nodup_of_subset ((List.range (ns.length + 1)).map (cand z)) ns (by
    refine List.pairwise_map.mpr (List.Pairwise.imp_of_mem (fun {a b} ha hb hab e => ?_) (List.nodup_range (n := ns.length + 1)))
    rw [List.mem_range] at ha hb
    exact hab (cand_inj (by omega) (by omega) e)) (fun a ha => by
    obtain ⟨k, hk, rfl⟩ := List.mem_map.mp ha
    exact hall k (List.mem_range.mp hk))
  rw [List.length_map, List.length_range] at this
  omega
theorem strD_dig {k : Nat} {st : Sto} (h : k < 11) : strD (.int k) st = .ok (.str (dig k)) st := by
  show (if _ then _ else _) = _
  rw [if_pos]
  · rfl
  · rw [Int.natAbs_natCast]
    exact Nat.lt_of_lt_of_le (log_lt (k := 8) (by omega) (by omega)) (by omega)
theorem slice6 {z : Str} {st : Sto} (h : z.length ≤ 1000) : sliceD (.str z) none (some 6) st = .ok (.str (cutS z none (some 6))) st := by
  show (if _ then _ else _) = _
  rw [if_pos (smallLine h)]
theorem f_unlike {z : Str} {ns : List Str} {p : Nat} {st : Sto} (hz : GoodName z) (hp : st[p]? = some (some (.lst (ns.map .str)))) (hn : ns.length ≤ 10) : ∃ z', F__law_unlike_name [.str z, .ref p] st = .ok (.val (.str z')) st ∧ GoodName z' ∧ z' ∉ ns := by
  suffices b : ∃ z', B__law_unlike_name [some (.val (.str z)), some (.val (.ref p)), none] st = .ok (.rt (.val (.str z'))) st ∧ GoodName z' ∧ z' ∉ ns by
    obtain ⟨z', e, h⟩ := b
    refine ⟨z', ?_, h⟩
    unfold F__law_unlike_name
    simp [e]
  have dr := derefD_ref hp
  unfold B__law_unlike_name
  by_cases hm : z ∈ ns
  · rw [seq_go (ρ1 := [some (.val (.str z)), some (.val (.ref p)), none]) (st1 := st) (by
      rw [if_f (st1 := st) (by simp [dr, in_lst, hm])]
      simp)]
    have hl6 : (cutS z none (some 6)).length ≤ 6 := by
      rw [len_list, cut6, List.length_take]
      omega
    have ea : ∀ k, k < 11 → addD (.str (cutS z none (some 6))) (.str (dig k)) st = .ok (.str (cand z k)) st := fun k hk => addD_ss (by have := (dig_ok k hk).1; omega)
    have sl := slice6 (z := z) (st := st) (by have := hz.1; omega)
    let kOf : D → Nat := fun d => match d with | .int i => i.toNat | _ => 0
    obtain ⟨d, hd, pd, e⟩ := for_first (step := stepT (.nm 2) (qIf (c2 (inB not) (s2 addD (sSl (sVar 0) pNone (pSome (sC (.int 6)))) (s1 strD (sV (sVar 2)))) (sV (sVar 1))) (qRet (s2 addD (sSl (sVar 0) pNone (pSome (sC (.int 6)))) (s1 strD (sV (sVar 2))))) qNil)) (st := st)
      (fun ρ => ∃ x, ρ = [some (.val (.str z)), some (.val (.ref p)), x]) (fun d => decide (cand z (kOf d) ∉ ns)) (fun d => .val (.str (cand z (kOf d)))) (rng 0 1 (ns.length + 1)) [some (.val (.str z)), some (.val (.ref p)), none] ⟨none, rfl⟩
      (fun d hd ρ hI pd => by
        obtain ⟨x, rfl⟩ := hI
        obtain ⟨i, hi⟩ := List.mem_iff_getElem?.mp hd
        obtain ⟨hi2, rfl⟩ := rng_at hi
        have pk : cand z i ∉ ns := by simpa [kOf] using pd
        rw [stepT_nm (by simp)]
        have sd := strD_dig (k := i) (st := st) (by omega)
        have ea' := ea i (by omega)
        rw [show [some (Sl.val (D.str z)), some (Sl.val (D.ref p)), x].set 2 (some (.val (.int (i : Nat)))) = [some (.val (.str z)), some (.val (.ref p)), some (.val (.int (i : Nat)))] from rfl]
        rw [if_t (st1 := st) (by simp [sl, sd, ea', dr, in_lst, pk])]
        simp [sl, sd, ea', kOf])
      (fun d hd ρ hI pd => by
        obtain ⟨x, rfl⟩ := hI
        obtain ⟨i, hi⟩ := List.mem_iff_getElem?.mp hd
        obtain ⟨hi2, rfl⟩ := rng_at hi
        have pk : cand z i ∈ ns := by simpa [kOf] using pd
        have sd := strD_dig (k := i) (st := st) (by omega)
        have ea' := ea i (by omega)
        refine ⟨[some (.val (.str z)), some (.val (.ref p)), some (.val (.int (i : Nat)))], ?_, _, rfl⟩
        rw [stepT_nm (by simp)]
        rw [show [some (Sl.val (D.str z)), some (Sl.val (D.ref p)), x].set 2 (some (.val (.int (i : Nat)))) = [some (.val (.str z)), some (.val (.ref p)), some (.val (.int (i : Nat)))] from rfl]
        rw [if_f (st1 := st) (by simp [sl, sd, ea', dr, in_lst, pk])]
        simp)
      (by
        obtain ⟨k, hk, hc⟩ := cand_new (z := z) hn
        refine ⟨.int (k : Nat), ?_, by simpa [kOf] using hc⟩
        refine List.mem_of_getElem? (i := k) ?_
        rw [rng_get, if_pos hk]
        simp)
    obtain ⟨i, hi⟩ := List.mem_iff_getElem?.mp hd
    obtain ⟨hi2, rfl⟩ := rng_at hi
    have er : sItA r1D (sCons (s2 addD (s1 lenD (sV (sVar 1))) (sC (.int 1))) sNil) [some (.val (.str z)), some (.val (.ref p)), none] st = .ok (.fix (rng 0 1 (ns.length + 1))) st := by
      refine r1_nat (n := ns.length + 1) ?_ (by omega)
      simp [dr]
    refine ⟨cand z i, ?_, cand_good hz (by omega), by simpa [kOf] using pd⟩
    rw [seq_rt (for_go er e)]
    simp [kOf]
  · refine ⟨z, ?_, hz, hm⟩
    refine seq_rt ?_
    rw [if_t (st1 := st) (by simp [dr, in_lst, hm])]
    simp
end KP
set_option Elab.async false
set_option linter.all false
set_option maxRecDepth 100000
set_option maxHeartbeats 1000000
set_option autoImplicit false
set_option exponentiation.threshold 5000
/-! RF: the plain law: _law_pool_names. -/
namespace KP
open PySem PySem.Spec PyProof.Rows L2 Ds KG
theorem neD_nil {xs : List D} {st : Sto} (h : ∀ x ∈ xs, x.py.plain = true) : neD (.lst xs) (.lst []) st = .ok (!xs.isEmpty) st := by
  have p : (D.lst xs).py.plain = true := by
    show PyData.plainAll (D.pys xs) = true
    rw [pys_map, plainAll_iff]
    intro y hy
    obtain ⟨x, hx, rfl⟩ := List.mem_map.mp hy
    exact h x hx
  unfold neD
  rw [if_pos ⟨p, rfl, Nat.le_trans (Nat.min_le_right _ _) (by simp [D.py, D.pys, PyData.depth, PyData.depthAll])⟩]
  cases xs with
  | nil => rfl
  | cons x xs => rfl
theorem strs_plain (ss : List Str) : ∀ x ∈ ss.map D.str, x.py.plain = true := fun x hx => by
  obtain ⟨s, _, rfl⟩ := List.mem_map.mp hx
  rfl
theorem sM_app {f : SE} {fl : SL} {ρ : En} {st st2 : Sto} {n : Nat} {y : D} {xs zs : List D} (h1 : f ρ st = .ok (.ref n) st) (h2 : st[n]? = some (some (.lst zs))) (h3 : fl ρ st = .ok [y] st2) (h4 : st2[n]? = some (some (.lst xs))) (hl : xs.length ≤ 100000) :
    sM kApp f fl ρ st = .ok .non (st2.set n (some (.lst (xs ++ [y])))) := by
  have z : xs.length < sizeLine := by rw [sizeLine_eq]; omega
  unfold sM
  rw [h1, Out.bind_ok]
  simp only [h2]
  rw [h3, Out.bind_ok]
  simp only [h4]
  rw [kApp_eq, if_pos z]
theorem sExtV_go {f g : SE} {ρ : En} {st : Sto} {n : Nat} {xs ys : List D} (h1 : f ρ st = .ok (.ref n) st) (h2 : st[n]? = some (some (.lst xs))) (h3 : g ρ st = .ok (.lst ys) st) (hl : xs.length + ys.length ≤ 100000) :
    sExtV f g ρ st = .ok .non (st.set n (some (.lst (xs ++ ys)))) := by
  have z : xs.length + ys.length ≤ sizeLine := by rw [sizeLine_eq]; omega
  unfold sExtV
  rw [h1, Out.bind_ok]
  simp only [h2]
  rw [h3, Out.bind_ok]
  simp only [h2]
  rw [if_pos z]
noncomputable def poolB : SS := (qSeq (qSet 5 (sCall F__law_name [] (sCons (sVar 0) sNil))) (qSeq (qIf (bAnd (c2 neR (sVar 2) (sV (sF (sLst sNil)))) (c2 eqD (sCall F__law_take [] (sCons (sVar 0) (sCons (sC (.int 3)) sNil))) (sV (sC (.int 0))))) (qSet 5 (sCall F__law_pick [] (sCons (sVar 0) (sCons (sVar 2) sNil)))) qNil) (qDrop (sM kApp (sVar 3) (sCons (sCall F__law_unlike_name [] (sCons (sVar 5) (sCons (sVar 3) sNil))) sNil)))))
theorem turn_pool {s p n m i c : Nat} {ns ps : List Str} {st : Sto} {x5 : Option Sl} (g : GS st s c) (hc : c ≤ 2 ^ 62) (hn : st[n]? = some (some (.lst (ns.map .str)))) (hp : st[p]? = some (some (.lst (ps.map .str)))) (hps : p ≠ s) (hns : n ≠ s) (hpn : n ≠ p)
    (hl : ns.length ≤ 9) (hpl : ps.length ≤ 100000) (hpg : ∀ z ∈ ps, GoodName z) :
    ∃ (z : Str) (st' : Sto) (y5 : Option Sl), poolB [some (.val (.ref s)), some (.val (.int m)), some (.val (.ref p)), some (.val (.ref n)), some (.val (.int i)), x5] st = .ok (.nx [some (.val (.ref s)), some (.val (.int m)), some (.val (.ref p)), some (.val (.ref n)), some (.val (.int i)), y5]) st' ∧
      GoodName z ∧ z ∉ ns ∧ st'[n]? = some (some (.lst ((ns ++ [z]).map .str))) ∧ GS st' s (c + 112) ∧ Fr [s, n] st st' := by
  obtain ⟨z, st2, e2, gz, g2, F2⟩ := f_lname g (by omega)
  have hn2 : st2[n]? = some (some (.lst (ns.map .str))) := by rw [F2.2 n (List.getElem?_eq_some_iff.mp hn).1 (by simpa using hns)]; exact hn
  have hp2 : st2[p]? = some (some (.lst (ps.map .str))) := by rw [F2.2 p (List.getElem?_eq_some_iff.mp hp).1 (by simpa using hps)]; exact hp
  have nr : neR (.ref p) (.lst []) st2 = .ok (!ps.isEmpty) st2 := by
    rw [neR_ref hp2, neD_nil (strs_plain ps)]
    simp
  -- the name, perhaps another one
  have mid : ∃ (w : Str) (st3 : Sto), qIf (bAnd (c2 neR (sVar 2) (sV (sF (sLst sNil)))) (c2 eqD (sCall F__law_take [] (sCons (sVar 0) (sCons (sC (.int 3)) sNil))) (sV (sC (.int 0))))) (qSet 5 (sCall F__law_pick [] (sCons (sVar 0) (sCons (sVar 2) sNil)))) qNil
      [some (.val (.ref s)), some (.val (.int m)), some (.val (.ref p)), some (.val (.ref n)), some (.val (.int i)), some (.val (.str z))] st2 = .ok (.nx [some (.val (.ref s)), some (.val (.int m)), some (.val (.ref p)), some (.val (.ref n)), some (.val (.int i)), some (.val (.str w))]) st3 ∧ GoodName w ∧ GS st3 s (c + 112) ∧ Fr [s] st2 st3 := by
    cases hps0 : ps with
    | nil =>
      rw [hps0] at nr
      refine ⟨z, st2, ?_, gz, g2.mono (by omega), Fr.refl _ _⟩
      rw [if_f (st1 := st2) (by simp [smallLine, nr])]
      simp
    | cons q qs =>
      rw [hps0] at nr
      obtain ⟨t, st3, e3, l3, g3, F3⟩ := f_takeI (m := 3) g2 (by omega) (by omega) (by omega)
      by_cases ht : t = 0
      · subst ht
        have hp3 : st3[p]? = some (some (.lst (ps.map .str))) := by rw [F3.2 p (List.getElem?_eq_some_iff.mp hp2).1 (by simpa using hps)]; exact hp2
        obtain ⟨y, st4, e4, hy, g4, F4⟩ := pick_ref g3 (by omega) hp3 hps (by rw [hps0]; simp) (by rw [List.length_map]; omega)
        obtain ⟨w, hw, rfl⟩ := List.mem_map.mp hy
        refine ⟨w, st4, ?_, hpg w hw, g4.mono (by omega), F3.trans F4⟩
        rw [if_t (st1 := st3) (by simp [smallLine, nr, e3, eqD_int])]
        simp [e4]
      · refine ⟨z, st3, ?_, gz, g3.mono (by omega), F3⟩
        rw [if_f (st1 := st3) (by simp [smallLine, nr, e3, eqD_int, ht])]
        simp
  obtain ⟨w, st3, e3, gw, g3, F3⟩ := mid
  have hn3 : st3[n]? = some (some (.lst (ns.map .str))) := by rw [F3.2 n (List.getElem?_eq_some_iff.mp hn2).1 (by simpa using hns)]; exact hn2
  obtain ⟨z', e4, gz', hz'⟩ := f_unlike gw hn3 (by omega)
  have e5 : sM kApp (sVar 3) (sCons (sCall F__law_unlike_name [] (sCons (sVar 5) (sCons (sVar 3) sNil))) sNil) [some (.val (.ref s)), some (.val (.int m)), some (.val (.ref p)), some (.val (.ref n)), some (.val (.int i)), some (.val (.str w))] st3 = .ok .non (st3.set n (some (.lst (ns.map .str ++ [.str z'])))) :=
    sM_app (by simp) hn3 (by simp [e4]) hn3 (by rw [List.length_map]; omega)
  refine ⟨z', st3.set n (some (.lst (ns.map .str ++ [.str z']))), some (.val (.str w)), ?_, gz', hz', by rw [set_at hn3, List.map_append]; rfl, ?_, ?_⟩
  · unfold poolB
    rw [seq_go (ρ1 := [some (.val (.ref s)), some (.val (.int m)), some (.val (.ref p)), some (.val (.ref n)), some (.val (.int i)), some (.val (.str z))]) (st1 := st2) (by simp [e2])]
    rw [seq_go e3, qDrop_eq, e5]
    simp
  · obtain ⟨x, h1, h2⟩ := g3
    exact ⟨x, by rw [List.getElem?_set_ne hns]; exact h1, h2⟩
  · exact ((F2.more (by simp)).trans (F3.more (by simp))).trans (Fr.set (by simp))
/-- names of one table or choice -/
theorem f_pool {s p m c : Nat} {ps : List Str} {st : Sto} (g : GS st s c) (hc : c ≤ 2 ^ 61) (hp : st[p]? = some (some (.lst (ps.map .str)))) (hps : p ≠ s) (hm : m ≤ 10) (hpl : ps.length ≤ 90000) (hpg : ∀ z ∈ ps, GoodName z) :
    ∃ (ns : List Str) (st' : Sto), F__law_pool_names [.ref s, .int m, .ref p] st = .ok (.val (.ref st.length)) st' ∧ ns.length = m ∧ ns.Nodup ∧ (∀ z ∈ ns, GoodName z) ∧ st'[st.length]? = some (some (.lst (ns.map .str))) ∧
      st'[p]? = some (some (.lst ((ps ++ ns).map .str))) ∧ GS st' s (c + 112 * m) ∧ Fr [s, p] st st' := by
  have hpl' := (List.getElem?_eq_some_iff.mp hp).1
  have hsl := g.lt
  generalize hn0 : st.length = n at *
  generalize hst1 : st ++ [some (MO.lst [])] = st1
  have F1 : Fr [s] st st1 := by rw [← hst1]; exact Fr.push
  have hn1 : st1[n]? = some (some (.lst (([] : List Str).map .str))) := by rw [← hst1, ← hn0]; simp
  have old : ∀ j, j < n → st1[j]? = st[j]? := fun j hj => by rw [← hst1, List.getElem?_append_left (by omega)]
  have g1 : GS st1 s c := by
    obtain ⟨x, h1, h2⟩ := g
    exact ⟨x, by rw [old s hsl]; exact h1, h2⟩
  have hp1 : st1[p]? = some (some (.lst (ps.map .str))) := by rw [old p hpl']; exact hp
  obtain ⟨ρ', st2, e2, hI⟩ := for_inv (step := stepT (.nm 4) poolB) (fun i ρ st' => ∃ (ns : List Str) (x4 x5 : Option Sl), ns.length = i ∧ ns.Nodup ∧ (∀ z ∈ ns, GoodName z) ∧ st'[n]? = some (some (.lst (ns.map .str))) ∧ GS st' s (c + 112 * i) ∧ Fr [s, n] st1 st' ∧
      ρ = [some (.val (.ref s)), some (.val (.int m)), some (.val (.ref p)), some (.val (.ref n)), x4, x5]) (rng 0 1 m) 0 [some (.val (.ref s)), some (.val (.int m)), some (.val (.ref p)), some (.val (.ref n)), none, none] st1
    ⟨[], none, none, rfl, List.nodup_nil, by simp, hn1, g1, Fr.refl _ _, rfl⟩ (fun i d ρ st' hi hI => by
      obtain ⟨ns, x4, x5, hl, hnd, hg, hn', g', F', rfl⟩ := hI
      obtain ⟨hi2, rfl⟩ := rng_at hi
      rw [Nat.zero_add] at *
      have hp' : st'[p]? = some (some (.lst (ps.map .str))) := by rw [F'.2 p (List.getElem?_eq_some_iff.mp hp1).1 (by simp; omega)]; exact hp1
      obtain ⟨z, st'', y5, e, gz, hz, hn'', g'', F''⟩ := turn_pool (m := m) (i := i) (x5 := x5) g' (by omega) hn' hp' hps (by omega) (by omega) (by omega) (by omega) hpg
      refine sat_of (by rw [stepT_nm (by simp)]; exact e) ?_
      refine ⟨ns ++ [z], _, y5, by rw [List.length_append, hl]; rfl, ?_, fun w hw => ?_, hn'', g''.mono (by omega), F'.trans F'', rfl⟩
      · rw [List.nodup_append]
        refine ⟨hnd, by simp, fun a ha b hb => ?_⟩
        rw [List.mem_singleton.mp hb]
        intro q
        exact hz (by rw [← q]; exact ha)
      · rcases List.mem_append.mp hw with h | h
        · exact hg w h
        · rw [List.mem_singleton.mp h]; exact gz)
  obtain ⟨ns, x4, x5, hl, hnd, hg, hn2, g2, F2, rfl⟩ := hI
  have el : (rng 0 1 m).length = m := by unfold rng; rw [List.length_map, List.length_range]
  rw [Nat.zero_add, el] at hl g2
  have hp2 : st2[p]? = some (some (.lst (ps.map .str))) := by rw [F2.2 p (List.getElem?_eq_some_iff.mp hp1).1 (by simp; omega)]; exact hp1
  have e3 : sExtV (sVar 2) (sV (sVar 3)) [some (.val (.ref s)), some (.val (.int m)), some (.val (.ref p)), some (.val (.ref n)), x4, x5] st2 = .ok .non (st2.set p (some (.lst (ps.map .str ++ ns.map .str)))) :=
    sExtV_go (by simp) hp2 (by simp [derefD_ref hn2]) (by rw [List.length_map, List.length_map]; omega)
  refine ⟨ns, st2.set p (some (.lst (ps.map .str ++ ns.map .str))), ?_, hl, hnd, hg, by rw [List.getElem?_set_ne (by omega)]; exact hn2, by rw [set_at hp2, List.map_append], ?_, ?_⟩
  · have b : B__law_pool_names [some (.val (.ref s)), some (.val (.int m)), some (.val (.ref p)), none, none, none] st = .ok (.rt (.val (.ref n))) (st2.set p (some (.lst (ps.map .str ++ ns.map .str)))) := by
      unfold poolB at e2
      unfold B__law_pool_names
      rw [seq_go (ρ1 := [some (.val (.ref s)), some (.val (.int m)), some (.val (.ref p)), some (.val (.ref n)), none, none]) (st1 := st1) (by simp [smallLine, hst1, hn0])]
      rw [seq_go (for_go (r1_nat (n := m) (by simp) (by omega)) e2)]
      rw [seq_go (ρ1 := [some (.val (.ref s)), some (.val (.int m)), some (.val (.ref p)), some (.val (.ref n)), x4, x5]) (st1 := st2.set p (some (.lst (ps.map .str ++ ns.map .str)))) (by rw [qDrop_eq, e3]; simp)]
      simp
    unfold F__law_pool_names
    simp [b]
  · obtain ⟨x, h1, h2⟩ := g2
    exact ⟨x, by rw [List.getElem?_set_ne hps]; exact h1, h2⟩
  · refine ⟨?_, fun j hj hm => ?_⟩
    · rw [List.length_set]
      exact Nat.le_trans F1.1 F2.1
    · have hj' : j < n := by omega
      simp only [List.mem_cons, List.not_mem_nil, or_false, not_or] at hm
      rw [List.getElem?_set_ne (fun z => hm.2 z.symm), F2.2 j (by have := F1.1; omega) (by simp; omega), old j hj']
end KP
set_option Elab.async false
set_option linter.all false
set_option maxRecDepth 100000
set_option maxHeartbeats 1000000
set_option autoImplicit false
set_option exponentiation.threshold 5000
/-! RG: the plain law: _law_split_words. -/
namespace KP
open PySem PySem.Spec PyProof.Rows L2 Ds KG
abbrev abcS : Str := "abcdefgh"
/-- a word of at most n letters -/
def Wd (n : Nat) (w : Str) : Prop := w.length ≤ n ∧ ∀ c ∈ w.cps.toList, c ∈ abcS.cps.toList
theorem Wd.mono {n m : Nat} {w : Str} (h : Wd n w) (k : n ≤ m) : Wd m w := ⟨Nat.le_trans h.1 k, h.2⟩
theorem Wd.app {n m : Nat} {a b : Str} (h : Wd n a) (k : Wd m b) : Wd (n + m) (a ++ b) := ⟨by rw [str_app]; exact Nat.add_le_add h.1 k.1, fun c hc => by
  rw [app_list] at hc
  rcases List.mem_append.mp hc with q | q
  · exact h.2 c q
  · exact k.2 c q⟩
/-- the letters of a kind -/
structure Sg (z : Str) : Prop where
  two : 2 ≤ z.length
  eight : z.length ≤ 8
  abc : ∀ c ∈ z.cps.toList, c ∈ abcS.cps.toList
theorem Sg.one {z : Str} (h : Sg z) {u : Nat} (hu : u ∈ z.cps.toList) : Wd 1 ⟨#[u]⟩ := ⟨Nat.le_refl _, fun c hc => by
  have : c = u := by simpa using hc
  rw [this]; exact h.abc u hu⟩
def kraft (W : List Str) : Nat := (W.map fun w => 2 ^ (4 - w.length)).sum
theorem erase_sum {α : Type} (f : α → Nat) : ∀ (W : List α) (i : Nat) (w : α), W[i]? = some w → ((W.eraseIdx i).map f).sum + f w = (W.map f).sum ∧ (W.eraseIdx i).length + 1 = W.length
  | [], i, w, h => by simp at h
  | x :: W, 0, w, h => by
    simp only [List.getElem?_cons_zero, Option.some.injEq] at h
    subst h
    simp [Nat.add_comm]
  | x :: W, i + 1, w, h => by
    have := erase_sum f W i w (by simpa using h)
    rw [List.eraseIdx_cons_succ, List.map_cons, List.sum_cons, List.map_cons, List.sum_cons, List.length_cons, List.length_cons]
    omega
theorem rem_ok {W : List Str} {w : Str} (h : w ∈ W) : ∃ E : List Str, kRem (W.map .str) [.str w] = some (E.map .str) ∧ E.length + 1 = W.length ∧ kraft E + 2 ^ (4 - w.length) = kraft W ∧ ∀ x ∈ E, x ∈ W := by
  have hx : ∃ x, x ∈ W ∧ (x == w) = true := ⟨w, h, beq_self_eq_true w⟩
  have hi := List.findIdx_lt_length_of_exists hx
  have he : W[W.findIdx (· == w)]? = some w := by
    rw [List.getElem?_eq_getElem hi]
    congr 1
    exact beq_iff_eq.mp (List.findIdx_getElem (w := hi))
  obtain ⟨h1, h2⟩ := erase_sum (fun w : Str => 2 ^ (4 - w.length)) W _ w he
  refine ⟨W.eraseIdx (W.findIdx (· == w)), ?_, h2, h1, fun x hx => List.mem_of_mem_eraseIdx hx⟩
  show (match strsOf (W.map .str) with | some ns => if w ∈ ns then some ((ns.eraseIdx (ns.findIdx (· == w))).map D.str) else none | none => none) = _
  rw [strsOf_map]
  show (if w ∈ W then _ else _) = _
  rw [if_pos h]
theorem short_one {W : List Str} (h : kraft W = 16) (hl : W.length ≤ 10) : ∃ w ∈ W, w.length < 4 := by
  refine Classical.byContradiction fun q => ?_
  have hall : ∀ w ∈ W, 4 ≤ w.length := fun w hw => Classical.byContradiction fun z => q ⟨w, hw, by omega⟩
  have : kraft W = W.length := by
    clear h hl q
    unfold kraft
    induction W with
    | nil => rfl
    | cons w W ih =>
      have h1 := hall w List.mem_cons_self
      rw [List.map_cons, List.sum_cons, ih (fun x hx => hall x (List.mem_cons_of_mem _ hx)), List.length_cons, show 4 - w.length = 0 from by omega]
      omega
  omega
noncomputable def splitB : SS := (qSeq (qSet 5 (sCall F__law_pick [] (sCons (sVar 0) (sCons (sF (sLc (sItO 3) (.nm 9) (c2 (ordD false false) (s1 lenD (sV (sVar 9))) (sV (sC (.int 4)))) (sVar 9) [9])) sNil)))) (qSeq (qM 3 kRem (sCons (sVar 5) sNil)) (qSeq (qSet 6 (sCall F__law_take [] (sCons (sVar 0) (sCons (s2 subD (s1 lenD (sV (sVar 2))) (sC (.int 1))) sNil)))) (qSeq (qSet 7 (s2 addD (s2 addD (sVar 6) (sC (.int 1))) (sCall F__law_take [] (sCons (sVar 0) (sCons (s2 subD (s2 subD (s1 lenD (sV (sVar 2))) (sC (.int 1))) (sVar 6)) sNil))))) (qSeq (qM 3 kApp (sCons (s2 addD (sVar 5) (sIx (sVar 2) (sVar 6))) sNil)) (qM 3 kApp (sCons (s2 addD (sVar 5) (sIx (sVar 2) (sVar 7))) sNil)))))))
/-- the words while they are split -/
def WI (i : Nat) (W : List Str) : Prop := W.length = i + 1 ∧ (∀ w ∈ W, Wd (min 4 i) w) ∧ kraft W = 16
theorem turn_split {s m i c : Nat} {sg : Str} {W : List Str} {st : Sto} {x5 x6 x7 : Option Sl} (g : GS st s c) (hc : c ≤ 2 ^ 62) (hsg : Sg sg) (hi : i ≤ 9) (hW : WI i W) :
    ∃ (W' : List Str) (st' : Sto) (y5 y6 y7 : Option Sl), splitB [some (.val (.ref s)), some (.val (.int m)), some (.val (.str sg)), some (.own (W.map .str)), some (.val (.int i)), x5, x6, x7, none, none] st =
      .ok (.nx [some (.val (.ref s)), some (.val (.int m)), some (.val (.str sg)), some (.own (W'.map .str)), some (.val (.int i)), y5, y6, y7, none, none]) st' ∧ WI (i + 1) W' ∧ GS st' s (c + 18) ∧ Fr [s] st st' := by
  obtain ⟨h1, h2, h3⟩ := hW
  have hlc : lcL (stepC (.nm 9) (c2 (ordD false false) (s1 lenD (sV (sVar 9))) (sV (sC (.int 4)))) (sVar 9) [some (.val (.ref s)), some (.val (.int m)), some (.val (.str sg)), some (.own (W.map .str)), some (.val (.int i)), x5, x6, x7, none, none]) (W.map .str) [] st = .ok ((W.filter fun w : Str => decide (w.length < 4)).map .str) st := by
    rw [lc_on (g := fun w => if decide (w.length < 4) then some (D.str w) else none) W [] (fun w hw => ?_) (by rw [List.length_nil]; omega), List.nil_append, filterMap_if]
    have hl := lenD_str (z := w) (st := st) (by have := (h2 w hw).1; omega)
    by_cases hq : w.length < 4
    · have hq' : (w.length : Int) < 4 := by omega
      simp [stepC_eq, hl, hq, hq']
    · have hq' : ¬ (w.length : Int) < 4 := by omega
      simp [stepC_eq, hl, hq, hq']
  obtain ⟨w0, hw0, hw4⟩ := short_one h3 (by omega)
  have hfl := List.length_filter_le (fun w : Str => decide (w.length < 4)) W
  obtain ⟨y, st1, e1, hy, g1, F1⟩ := pick_lst (xs := (W.filter fun w : Str => decide (w.length < 4)).map .str) g (by omega) (by
    intro q
    rw [List.map_eq_nil_iff, List.filter_eq_nil_iff] at q
    exact q w0 hw0 (by simpa using hw4)) (by rw [List.length_map]; omega)
  obtain ⟨w, hw, rfl⟩ := List.mem_map.mp hy
  obtain ⟨hwW, hwl⟩ := List.mem_filter.mp hw
  have hwl : w.length < 4 := of_decide_eq_true hwl
  obtain ⟨E, eR, hE, hK, hEs⟩ := rem_ok hwW
  obtain ⟨t2, st2, e2, l2, g2, F2⟩ := f_take (m := sg.length - 1) g1 (by omega) (by have := hsg.eight; omega)
  obtain ⟨t3, st3, e3, l3, g3, F3⟩ := f_take (m := sg.length - 1 - t2) g2 (by omega) (by have := hsg.eight; omega)
  have hs2 := hsg.two
  have hs8 := hsg.eight
  have hll : sg.cps.toList.length = sg.length := Array.length_toList
  have c1 := List.getElem?_eq_getElem (l := sg.cps.toList) (i := t2) (by omega)
  have c2' := List.getElem?_eq_getElem (l := sg.cps.toList) (i := t2 + 1 + t3) (by omega)
  have d1 := hsg.one (List.mem_of_getElem? c1)
  have d2 := hsg.one (List.mem_of_getElem? c2')
  generalize sg.cps.toList[t2] = u at c1 d1
  generalize sg.cps.toList[t2 + 1 + t3] = v at c2' d2
  have i1 := idx_str (st := st3) c1 (by omega)
  have i2 := idx_str (st := st3) c2' (by omega)
  have a1 := addD_ss (a := w) (b := ⟨#[u]⟩) (st := st3) (by show w.length + 1 ≤ 1000; omega)
  have a2 := addD_ss (a := w) (b := ⟨#[v]⟩) (st := st3) (by show w.length + 1 ≤ 1000; omega)
  have z1 : E.length < sizeLine := by rw [sizeLine_eq]; omega
  have z2 : E.length + 1 < sizeLine := by rw [sizeLine_eq]; omega
  have ln := fun st => lenD_str (z := sg) (st := st) (by omega)
  refine ⟨E ++ [w ++ ⟨#[u]⟩, w ++ ⟨#[v]⟩], st3, some (.val (.str w)), some (.val (.int t2)), some (.val (.int (t2 + 1 + t3 : Nat))), ?_, ⟨?_, fun x hx => ?_, ?_⟩, g3.mono (by omega), (F1.trans F2).trans F3⟩
  · unfold splitB
    rw [seq_go (ρ1 := [some (.val (.ref s)), some (.val (.int m)), some (.val (.str sg)), some (.own (W.map .str)), some (.val (.int i)), some (.val (.str w)), x6, x7, none, none]) (st1 := st1) (by simp [hlc, e1])]
    rw [seq_go (ρ1 := [some (.val (.ref s)), some (.val (.int m)), some (.val (.str sg)), some (.own (E.map .str)), some (.val (.int i)), some (.val (.str w)), x6, x7, none, none]) (st1 := st1) (by simp [eR])]
    have e2' : F__law_take [.ref s, .int ((sg.length : Int) - 1)] st1 = .ok (.val (.int t2)) st2 := by rw [← e2]; congr 4; omega
    rw [seq_go (ρ1 := [some (.val (.ref s)), some (.val (.int m)), some (.val (.str sg)), some (.own (E.map .str)), some (.val (.int i)), some (.val (.str w)), some (.val (.int t2)), x7, none, none]) (st1 := st2) (by simp [ln, e2'])]
    have e3' : F__law_take [.ref s, .int ((sg.length : Int) - 1 - t2)] st2 = .ok (.val (.int t3)) st3 := by rw [← e3]; congr 4; omega
    rw [seq_go (ρ1 := [some (.val (.ref s)), some (.val (.int m)), some (.val (.str sg)), some (.own (E.map .str)), some (.val (.int i)), some (.val (.str w)), some (.val (.int t2)), some (.val (.int (t2 + 1 + t3 : Nat))), none, none]) (st1 := st3) (by simp [ln, e3'])]
    rw [seq_go (ρ1 := [some (.val (.ref s)), some (.val (.int m)), some (.val (.str sg)), some (.own ((E ++ [w ++ ⟨#[u]⟩]).map .str)), some (.val (.int i)), some (.val (.str w)), some (.val (.int t2)), some (.val (.int (t2 + 1 + t3 : Nat))), none, none]) (st1 := st3) (by simp [i1, a1, z1])]
    have i2' : idxD (.str sg) (.int ((t2 : Int) + 1 + t3)) st3 = .ok (.str ⟨#[v]⟩) st3 := i2
    simp [i2', a2, z2]
  · rw [List.length_append]
    show E.length + 2 = _
    omega
  · rcases List.mem_append.mp hx with h | h
    · exact (h2 x (hEs x h)).mono (by omega)
    · simp only [List.mem_cons, List.not_mem_nil, or_false] at h
      have hw' : Wd (min 3 i) w := ⟨by have := (h2 w hwW).1; omega, (h2 w hwW).2⟩
      rcases h with rfl | rfl
      · exact (hw'.app d1).mono (by omega)
      · exact (hw'.app d2).mono (by omega)
  · have el : ∀ x : Nat, (w ++ (⟨#[x]⟩ : Str)).length = w.length + 1 := fun x => by rw [str_app]; rfl
    unfold kraft at *
    rw [List.map_append, List.sum_append]
    simp only [List.map_cons, List.map_nil, List.sum_cons, List.sum_nil, el]
    have : (2 : Nat) ^ (4 - w.length) = 2 ^ (4 - (w.length + 1)) * 2 := by
      rw [← Nat.pow_succ]
      congr 1
      omega
    omega
theorem kraft_start : kraft [Str.ofString ""] = 16 := by decide +kernel
theorem sort_ok {W : List Str} {st : Sto} (h : W.length < 64) : sortD (.lst (W.map .str)) st = .ok ((sortStrs W).map .str) st := by
  show (match strsOf (W.map .str) with | some ys => if ys.length < 64 then Out.ok ((sortStrs ys).map D.str) st else .bad | none => .bad) = _
  rw [strsOf_map]
  show (if _ then _ else _) = _
  rw [if_pos h]
theorem f_split {s m c : Nat} {sg : Str} {st : Sto} (g : GS st s c) (hc : c ≤ 2 ^ 61) (hsg : Sg sg) (hm1 : 1 ≤ m) (hm : m ≤ 10) :
    ∃ (W : List Str) (st' : Sto), F__law_split_words [.ref s, .int m, .str sg] st = .ok (.own (W.map .str)) st' ∧ W.length = m ∧ (∀ w ∈ W, Wd (min 5 m) w) ∧ GS st' s (c + 200) ∧ Fr [s] st st' := by
  obtain ⟨ρ', st1, e1, hI⟩ := for_inv (step := stepT (.nm 4) splitB) (fun i ρ st' => i ≤ 9 → ∃ (W : List Str) (x4 x5 x6 x7 : Option Sl), WI i W ∧ GS st' s (c + 18 * i) ∧ Fr [s] st st' ∧ ρ = [some (.val (.ref s)), some (.val (.int m)), some (.val (.str sg)), some (.own (W.map .str)), x4, x5, x6, x7, none, none]) (rng 0 1 (m - 1)) 0
    [some (.val (.ref s)), some (.val (.int m)), some (.val (.str sg)), some (.own [.str (Str.ofString "")]), none, none, none, none, none, none] st (fun _ => ⟨[Str.ofString ""], none, none, none, none, ⟨rfl, fun w hw => by
      rw [List.mem_singleton.mp hw]
      exact ⟨by decide +kernel, by decide +kernel⟩, kraft_start⟩, g, Fr.refl _ _, rfl⟩) (fun i d ρ st' hi hI => by
      obtain ⟨hi2, rfl⟩ := rng_at hi
      rw [Nat.zero_add] at *
      obtain ⟨W, x4, x5, x6, x7, hW, g', F', rfl⟩ := hI (by omega)
      obtain ⟨W', st'', y5, y6, y7, e, hW', g'', F''⟩ := turn_split (m := m) (i := i) (x5 := x5) (x6 := x6) (x7 := x7) g' (by omega) hsg (by omega) hW
      refine sat_of (by rw [stepT_nm (by simp)]; exact e) ?_
      exact fun _ => ⟨W', _, y5, y6, y7, hW', g''.mono (by omega), F'.trans F'', rfl⟩)
  have el : (rng 0 1 (m - 1)).length = m - 1 := by unfold rng; rw [List.length_map, List.length_range]
  rw [Nat.zero_add, el] at hI
  obtain ⟨W, x4, x5, x6, x7, ⟨w1, w2, w3⟩, g1, F1, rfl⟩ := hI (by omega)
  obtain ⟨t2, st2, e2, l2, g2, F2⟩ := f_takeI (m := 3) g1 (by omega) (by omega) (by omega)
  have last : ∃ (V : List Str) (st3 : Sto) (ρ3 : En), qIf (c2 eqD (sCall F__law_take [] (sCons (sVar 0) (sCons (sC (.int 3)) sNil))) (sV (sC (.int 0)))) (qSeq (qSet 8 (sCall F__law_pick [] (sCons (sVar 0) (sCons (sVar 2) sNil)))) (qSetO 3 (sLc (sItO 3) (.nm 5) bYes (s2 addD (sVar 8) (sVar 5)) [5]))) qNil
      [some (.val (.ref s)), some (.val (.int m)), some (.val (.str sg)), some (.own (W.map .str)), x4, x5, x6, x7, none, none] st1 = .ok (.nx ρ3) st3 ∧ ρ3[3]? = some (some (.own (V.map .str))) ∧ V.length = m ∧ (∀ w ∈ V, Wd (min 5 m) w) ∧ GS st3 s (c + 200) ∧ Fr [s] st1 st3 := by
    by_cases ht : t2 = 0
    · subst ht
      obtain ⟨u, st3, e3, hu, g3, F3⟩ := pick_str (z := sg) g2 (by omega) (by
        intro q
        have := hsg.two
        rw [len_list, q] at this
        simp at this) (by have := hsg.eight; omega)
      have d1 := hsg.one hu
      have hlc : lcL (stepC (.nm 5) bYes (s2 addD (sVar 8) (sVar 5)) [some (.val (.ref s)), some (.val (.int m)), some (.val (.str sg)), some (.own (W.map .str)), x4, none, x6, x7, some (.val (.str ⟨#[u]⟩)), none]) (W.map .str) [] st3 = .ok (W.map fun w => .str (⟨#[u]⟩ ++ w)) st3 := by
        refine lc_mp W (fun w hw => ?_) (by omega)
        have ea := addD_ss (a := ⟨#[u]⟩) (b := w) (st := st3) (by have := (w2 w hw).1; show 1 + w.length ≤ 1000; omega)
        simp [stepC_eq, ea]
      refine ⟨W.map fun w => ⟨#[u]⟩ ++ w, st3, [some (.val (.ref s)), some (.val (.int m)), some (.val (.str sg)), some (.own ((W.map fun w => (⟨#[u]⟩ : Str) ++ w).map .str)), x4, x5, x6, x7, some (.val (.str ⟨#[u]⟩)), none], ?_, rfl, by rw [List.length_map]; omega, fun x hx => ?_, g3.mono (by omega), F2.trans F3⟩
      · rw [if_t (st1 := st2) (by simp [e2, eqD_int])]
        rw [seq_go (ρ1 := [some (.val (.ref s)), some (.val (.int m)), some (.val (.str sg)), some (.own (W.map .str)), x4, x5, x6, x7, some (.val (.str ⟨#[u]⟩)), none]) (st1 := st3) (by simp [e3])]
        simp [hlc, List.map_map]
      · obtain ⟨w, hw, rfl⟩ := List.mem_map.mp hx
        exact (d1.app (w2 w hw)).mono (by omega)
    · refine ⟨W, st2, [some (.val (.ref s)), some (.val (.int m)), some (.val (.str sg)), some (.own (W.map .str)), x4, x5, x6, x7, none, none], ?_, rfl, by omega, fun w hw => (w2 w hw).mono (by omega), g2.mono (by omega), F2⟩
      rw [if_f (st1 := st2) (by simp [e2, eqD_int, ht])]
      rw [qNil_eq]
  obtain ⟨V, st3, ρ3, e3, h3, v1, v2, g3, F3⟩ := last
  have hp : (sortStrs V).Perm V := List.mergeSort_perm _ _
  refine ⟨sortStrs V, st3, ?_, by rw [hp.length_eq]; exact v1, fun w hw => v2 w (hp.mem_iff.mp hw), g3, F1.trans F3⟩
  have b : B__law_split_words [some (.val (.ref s)), some (.val (.int m)), some (.val (.str sg)), none, none, none, none, none, none, none] st = .ok (.rt (.own ((sortStrs V).map .str))) st3 := by
    unfold splitB at e1
    unfold B__law_split_words
    rw [seq_go (ρ1 := [some (.val (.ref s)), some (.val (.int m)), some (.val (.str sg)), some (.own [.str (Str.ofString "")]), none, none, none, none, none, none]) (st1 := st) (by simp [smallLine])]
    have er : sItA r1D (sCons (s2 subD (sVar 1) (sC (.int 1))) sNil) [some (.val (.ref s)), some (.val (.int m)), some (.val (.str sg)), some (.own [.str (Str.ofString "")]), none, none, none, none, none, none] st = .ok (.fix (rng 0 1 (m - 1))) st := by
      refine r1_nat (n := m - 1) ?_ (by omega)
      simp
      omega
    rw [seq_go (for_go er e1), seq_go e3]
    simp [-getElem?_pos, h3, sort_ok (show V.length < 64 by omega)]
  unfold F__law_split_words
  simp [b]
end KP
set_option Elab.async false
set_option linter.all false
set_option maxRecDepth 100000
set_option maxHeartbeats 1000000
set_option autoImplicit false
set_option exponentiation.threshold 5000
/-! RH: the plain law: _law_odd_word. -/
namespace KP
open PySem PySem.Spec PyProof.Rows L2 Ds KG
theorem join_list (ws : List Str) : (Txt.join (Str.ofString "") ws).cps.toList = ws.flatMap fun w => w.cps.toList := by
  have e0 : (Str.ofString "").cps.toList = [] := by decide +kernel
  unfold Txt.join
  rw [StrLaws.glued_eq_join]
  induction ws with
  | nil => rfl
  | cons w ws ih =>
    cases ws with
    | nil => simp [Str.join]
    | cons v vs =>
      have : Str.join (Str.ofString "") (w :: v :: vs) = w ++ Str.ofString "" ++ Str.join (Str.ofString "") (v :: vs) := rfl
      rw [this, app_list, app_list, ih, e0, List.append_nil]
      rfl
theorem join_ok {ws : List Str} {st : Sto} (h : lenSum ws ≤ 1000) : joinD (Str.ofString "") (.lst (ws.map .str)) st = .ok (.str (Txt.join (Str.ofString "") ws)) st := by
  show (match strsOf _ with | some ys => _ | none => _) = _
  rw [strsOf_map]
  show (if _ then _ else _) = _
  rw [if_pos]
  have e0 : (Str.ofString "").length = 0 := by decide +kernel
  rw [e0, Nat.mul_zero]
  exact Nat.le_trans (show (ws.map Str.length).sum + 0 ≤ 1000 from h) (by omega)
theorem join_len {ws : List Str} {st : Sto} (h : lenSum ws ≤ 1000) : lenD (.str (Txt.join (Str.ofString "") ws)) st = .ok (.int (lenSum ws)) st := by
  rw [lenD_str (by rw [strs_len]; exact h), strs_len]
  rfl
theorem lenSum_le {n : Nat} (ws : List Str) (h : ∀ w ∈ ws, w.length ≤ n) : lenSum ws ≤ n * ws.length := by
  induction ws with
  | nil => simp [lenSum]
  | cons w ws ih =>
    have h1 := h w List.mem_cons_self
    have h2 := ih fun x hx => h x (List.mem_cons_of_mem _ hx)
    unfold lenSum at *
    rw [List.map_cons, List.sum_cons, List.length_cons, Nat.mul_add]
    omega
/-- the pen at q -/
def PenAt (st : Sto) (q n m : Nat) (sg : Str) (mode p : Nat) : Prop := st[q]? = some (some (.lst [.int n, .int m, .str sg, .int 3, .int mode, .ref p]))
theorem PenAt.fr {ms : List Nat} {st st' : Sto} {q n m mode p : Nat} {sg : Str} (h : PenAt st q n m sg mode p) (F : Fr ms st st') (hq : q ∉ ms) : PenAt st' q n m sg mode p := by
  unfold PenAt at *
  rw [F.2 q (List.getElem?_eq_some_iff.mp h).1 hq]
  exact h
theorem at_fr {ms : List Nat} {st st' : Sto} {q : Nat} {o : MO} (h : st[q]? = some (some o)) (F : Fr ms st st') (hq : q ∉ ms) : st'[q]? = some (some o) := by
  rw [F.2 q (List.getElem?_eq_some_iff.mp h).1 hq]
  exact h
theorem GS.fr {ms : List Nat} {st st' : Sto} {s c : Nat} (h : GS st s c) (F : Fr ms st st') (hq : s ∉ ms) : GS st' s c := by
  obtain ⟨x, h1, h2⟩ := h
  exact ⟨x, at_fr h1 F hq, h2⟩
/-- letters drawn one by one -/
theorem draw_go {s : Nat} {sg : Str} {step : D → Sto → Out (Option D)} (hsg : Sg sg) : ∀ (ds : List D) (acc : List Str) (st : Sto) (c : Nat), GS st s c → c + 6 * ds.length ≤ 2 ^ 62 → acc.length + ds.length ≤ 1000 →
    (∀ d ∈ ds, ∀ st' c, GS st' s c → c ≤ 2 ^ 62 → Fr [s] st st' → ∃ (u : Nat) (st'' : Sto), step d st' = .ok (some (.str ⟨#[u]⟩)) st'' ∧ u ∈ sg.cps.toList ∧ GS st'' s (c + 6) ∧ Fr [s] st' st'') →
    ∃ (ws : List Str) (st' : Sto), lcL step ds (acc.map .str) st = .ok ((acc ++ ws).map .str) st' ∧ ws.length = ds.length ∧ (∀ w ∈ ws, Wd 1 w) ∧ GS st' s (c + 6 * ds.length) ∧ Fr [s] st st'
  | [], acc, st, c, g, _, _, _ => ⟨[], st, by simp [lcL], rfl, by simp, by simpa using g, Fr.refl _ _⟩
  | d :: ds, acc, st, c, g, hc, hz, h => by
    rw [List.length_cons] at hc hz
    obtain ⟨u, st1, e1, hu, g1, F1⟩ := h d List.mem_cons_self st c g (by omega) (Fr.refl _ _)
    obtain ⟨ws, st2, e2, hl, hw, g2, F2⟩ := draw_go hsg ds (acc ++ [⟨#[u]⟩]) st1 (c + 6) g1 (by omega) (by simp; omega) (fun d' hd' st' c' g' hc' F' => h d' (List.mem_cons_of_mem _ hd') st' c' g' hc' (F1.trans F'))
    refine ⟨⟨#[u]⟩ :: ws, st2, ?_, by rw [List.length_cons, hl, List.length_cons], fun w hw' => ?_, by rw [List.length_cons, show c + 6 * (ds.length + 1) = c + 6 + 6 * ds.length from by omega]; exact g2, F1.trans F2⟩
    · unfold lcL
      rw [e1, Out.bind_ok]
      show (if _ then _ else _) = _
      rw [if_pos (by rw [List.length_map, sizeLine_eq]; omega)]
      rw [List.map_append] at e2
      rw [show acc.map D.str ++ [.str ⟨#[u]⟩] = acc.map D.str ++ [(⟨#[u]⟩ : Str)].map D.str from rfl, e2]
      rw [List.append_assoc]
      rfl
    · rcases List.mem_cons.mp hw' with q | q
      · rw [q]; exact hsg.one hu
      · exact hw w q
theorem f_odd {s q r n m mode p c B : Nat} {sg : Str} {ws : List Str} {st : Sto} (g : GS st s c) (hc : c ≤ 2 ^ 61) (hp : PenAt st q n m sg mode p) (hsg : Sg sg) (hr : st[r]? = some (some (.lst (ws.map .str)))) (hqs : q ≠ s) (hrs : r ≠ s) (hws : ws ≠ []) (hl : ws.length ≤ 1000)
    (hB : 3 ≤ B) (hw : ∀ w ∈ ws, Wd B w) : ∃ (w : Str) (st' : Sto), F__law_odd_word [.ref s, .ref q, .ref r] st = .ok (.val (.str w)) st' ∧ Wd B w ∧ GS st' s (c + 50) ∧ Fr [s] st st' := by
  suffices b : ∃ (w : Str) (st' : Sto), B__law_odd_word [some (.val (.ref s)), some (.val (.ref q)), some (.val (.ref r)), none] st = .ok (.rt (.val (.str w))) st' ∧ Wd B w ∧ GS st' s (c + 50) ∧ Fr [s] st st' by
    obtain ⟨w, st', e, h⟩ := b
    refine ⟨w, st', ?_, h⟩
    unfold F__law_odd_word
    simp [e]
  obtain ⟨t1, st1, e1, l1, g1, F1⟩ := f_takeI (m := 4) g (by omega) (by omega) (by omega)
  have hr1 := at_fr hr F1 (by simpa using hrs)
  have hp1 := hp.fr F1 (by simpa using hqs)
  unfold B__law_odd_word
  by_cases h1 : t1 = 0
  · subst h1
    obtain ⟨y, st2, e2, hy, g2, F2⟩ := pick_ref g1 (by omega) hr1 hrs (by simpa using hws) (by rw [List.length_map]; omega)
    obtain ⟨w, hwm, rfl⟩ := List.mem_map.mp hy
    refine ⟨w, st2, seq_rt ?_, hw w hwm, g2.mono (by omega), F1.trans F2⟩
    rw [if_t (st1 := st1) (by simp [e1, eqD_int])]
    simp [e2]
  · rw [seq_go (ρ1 := [some (.val (.ref s)), some (.val (.ref q)), some (.val (.ref r)), none]) (st1 := st1) (by
      rw [if_f (st1 := st1) (by simp [e1, eqD_int, h1])]
      simp)]
    obtain ⟨t2, st2, e2, l2, g2, F2⟩ := f_takeI (m := 4) g1 (by omega) (by omega) (by omega)
    have hp2 := hp1.fr F2 (by simpa using hqs)
    have el : (rng 0 1 t2).length = t2 := by unfold rng; rw [List.length_map, List.length_range]
    obtain ⟨vs, st3, e3, hl3, hv, g3, F3⟩ := draw_go (s := s) (step := stepC (.nm 3) bYes (sCall F__law_pick [] (sCons (sVar 0) (sCons (sIx (sVar 1) (sC (.int 2))) sNil))) [some (.val (.ref s)), some (.val (.ref q)), some (.val (.ref r)), none]) hsg (rng 0 1 t2) [] st2 _ g2 (by rw [el]; omega) (by rw [el, List.length_nil]; omega)
      (fun d hd st' c' g' hc' F' => by
        have hp' := hp2.fr F' (by simpa using hqs)
        obtain ⟨u, st'', e, hu, g'', F''⟩ := pick_str (z := sg) g' (by omega) (by
          intro q
          have := hsg.two
          rw [len_list, q] at this
          simp at this) (by have := hsg.eight; omega)
        refine ⟨u, st'', ?_, hu, g'', F''⟩
        have x2 : ∀ ρ : En, ρ[1]? = some (some (.val (.ref q))) → sIx (sVar 1) (sC (.int 2)) ρ st' = .ok (.str sg) st' := fun ρ hρ => ixR (n := q) 2 (by simp [hρ]) hp' rfl
        simp [-sIx_eq, stepC_eq, x2, e])
    rw [el] at hl3 g3
    have hsum : lenSum vs ≤ 1 * vs.length := lenSum_le vs fun w hw => (hv w hw).1
    have x3 : ∀ ρ : En, ρ[1]? = some (some (.val (.ref q))) → sIx (sVar 1) (sC (.int 3)) ρ st1 = .ok (.int 3) st1 := fun ρ hρ => ixR (n := q) 3 (by simp [hρ]) hp1 rfl
    rw [List.map_nil, List.nil_append] at e3
    refine ⟨Txt.join (Str.ofString "") vs, st3, ?_, ⟨by rw [strs_len]; show lenSum vs ≤ B; omega, fun c hc => ?_⟩, g3.mono (by omega), (F1.trans F2).trans F3⟩
    · have er : sItA r1D (sCons (sCall F__law_take [] (sCons (sVar 0) (sCons (s2 addD (sIx (sVar 1) (sC (.int 3))) (sC (.int 1))) sNil))) sNil) [some (.val (.ref s)), some (.val (.ref q)), some (.val (.ref r)), none] st1 = .ok (.fix (rng 0 1 t2)) st2 := by
        have : sCons (sCall F__law_take [] (sCons (sVar 0) (sCons (s2 addD (sIx (sVar 1) (sC (.int 3))) (sC (.int 1))) sNil))) sNil [some (.val (.ref s)), some (.val (.ref q)), some (.val (.ref r)), none] st1 = .ok [.int t2] st2 := by simp [-sIx_eq, x3, e2]
        rw [sItA_eq, this, itAK_ok, r1_ok (by omega)]
      have el : sLc (sItA r1D (sCons (sCall F__law_take [] (sCons (sVar 0) (sCons (s2 addD (sIx (sVar 1) (sC (.int 3))) (sC (.int 1))) sNil))) sNil)) (.nm 3) bYes (sCall F__law_pick [] (sCons (sVar 0) (sCons (sIx (sVar 1) (sC (.int 2))) sNil))) [3] [some (.val (.ref s)), some (.val (.ref q)), some (.val (.ref r)), none] st1 = .ok (vs.map .str) st3 := by
        rw [sLc_eq, er, lcK_ok, lcR_fix]
        exact e3
      have ej := join_ok (ws := vs) (st := st3) (by omega)
      rw [qRet_eq]
      unfold sJoin
      rw [sC_eq, Out.bind_ok]
      simp only [sV_eq, sF_eq, el, frzK_ok, Out.bind_ok, derefD_lst, ej, retK_ok]
    · rw [join_list] at hc
      obtain ⟨w, hw, hcw⟩ := List.mem_flatMap.mp hc
      exact (hv w hw).2 c hcw
end KP
set_option Elab.async false
set_option linter.all false
set_option maxRecDepth 100000
set_option maxHeartbeats 1000000
set_option autoImplicit false
set_option exponentiation.threshold 5000
/-! RI: the plain law: _law_branch_words. -/
namespace KP
open PySem PySem.Spec PyProof.Rows L2 Ds KG
theorem setR_go2 {fe f g : SE} {ρ : En} {st st2 : Sto} {n j : Nat} {y : D} {xs : List D} (h1 : fe ρ st = .ok y st2) (h2 : f ρ st2 = .ok (.ref n) st2) (h3 : g ρ st2 = .ok (.int j) st2) (h4 : st2[n]? = some (some (.lst xs))) (h5 : j < xs.length) :
    qSetR fe f g ρ st = .ok (.nx ρ) (st2.set n (some (.lst (xs.set j y)))) := by
  unfold qSetR
  rw [h1, Out.bind_ok, h2, Out.bind_ok, h3, Out.bind_ok]
  simp only [h4]
  have : setI xs (.int j) y = some (xs.set j y) := by
    unfold setI ixN
    simp [h5]
  rw [this]
theorem cut_last {α : Type} (xs : List α) : cutL xs none (some (-1)) = xs.dropLast := by
  unfold cutL
  rw [HT.sIx_none, List.drop_zero, Nat.sub_zero]
  have : HT.sIx xs.length xs.length (some (-1)) = xs.length - 1 := by
    unfold HT.sIx
    simp
    omega
  rw [this, List.dropLast_eq_take]
/-- the words at r, none longer than B -/
def WdsAt (st : Sto) (r : Nat) (ws : List Str) : Prop := st[r]? = some (some (.lst (ws.map .str)))
noncomputable def oddB : SS := (qIf (bOr (c2 eqD (sIx (sVar 1) (sC (.int 4))) (sV (sC (.int 1)))) (bAnd (c2 eqD (sIx (sVar 1) (sC (.int 4))) (sV (sC (.int 2)))) (c2 eqD (sCall F__law_take [] (sCons (sVar 0) (sCons (sC (.int 6)) sNil))) (sV (sC (.int 0)))))) (qSetR (sCall F__law_odd_word [] (sCons (sVar 0) (sCons (sVar 1) (sCons (sVar 4) sNil)))) (sVar 4) (sVar 5)) qNil)
theorem turn_odd {s q r n m1 mode p c B m i : Nat} {sg : Str} {ws : List Str} {st : Sto} {x3 : Option Sl} (g : GS st s c) (hc : c ≤ 2 ^ 60) (hp : PenAt st q n m1 sg mode p) (hsg : Sg sg) (hr : WdsAt st r ws) (hqs : q ≠ s) (hrs : r ≠ s) (hrq : r ≠ q) (hl : ws.length = m) (hm : m ≤ 10) (hi : i < m)
    (hB : 3 ≤ B) (hw : ∀ w ∈ ws, Wd B w) : ∃ (ws' : List Str) (st' : Sto), oddB [some (.val (.ref s)), some (.val (.ref q)), some (.val (.int m)), x3, some (.val (.ref r)), some (.val (.int i))] st = .ok (.nx [some (.val (.ref s)), some (.val (.ref q)), some (.val (.int m)), x3, some (.val (.ref r)), some (.val (.int i))]) st' ∧
      WdsAt st' r ws' ∧ ws'.length = m ∧ (∀ w ∈ ws', Wd B w) ∧ GS st' s (c + 60) ∧ Fr [s, r] st st' := by
  have x4 : ∀ ρ : En, ρ[1]? = some (some (.val (.ref q))) → sIx (sVar 1) (sC (.int 4)) ρ st = .ok (.int mode) st := fun ρ hρ => ixR (n := q) 4 (by simp [hρ]) hp rfl
  -- what is put in
  have putin : ∀ (st1 : Sto) (c1 : Nat), GS st1 s c1 → c1 ≤ c + 6 → Fr [s] st st1 → ∃ (ws' : List Str) (st' : Sto), qSetR (sCall F__law_odd_word [] (sCons (sVar 0) (sCons (sVar 1) (sCons (sVar 4) sNil)))) (sVar 4) (sVar 5) [some (.val (.ref s)), some (.val (.ref q)), some (.val (.int m)), x3, some (.val (.ref r)), some (.val (.int i))] st1 =
      .ok (.nx [some (.val (.ref s)), some (.val (.ref q)), some (.val (.int m)), x3, some (.val (.ref r)), some (.val (.int i))]) st' ∧ WdsAt st' r ws' ∧ ws'.length = m ∧ (∀ w ∈ ws', Wd B w) ∧ GS st' s (c + 60) ∧ Fr [s, r] st st' := fun st1 c1 g1 hc1 F1 => by
    have hr1 : WdsAt st1 r ws := at_fr hr F1 (by simpa using hrs)
    have hp1 := hp.fr F1 (by simpa using hqs)
    obtain ⟨w, st2, e2, hwB, g2, F2⟩ := f_odd g1 (by omega) hp1 hsg hr1 hqs hrs (by intro z; rw [z] at hl; simp at hl; omega) (by omega) hB hw
    have hr2 : WdsAt st2 r ws := at_fr hr1 F2 (by simpa using hrs)
    refine ⟨ws.set i w, st2.set r (some (.lst ((ws.map D.str).set i (.str w)))), setR_go2 (st2 := st2) (by simp [e2]) (by simp) (by simp) hr2 (by rw [List.length_map]; omega), ?_, by rw [List.length_set]; exact hl, fun x hx => ?_, ?_, ?_⟩
    · show (st2.set r _)[r]? = _
      rw [set_at hr2, List.map_set]
    · rcases List.mem_or_eq_of_mem_set hx with h | h
      · exact hw x h
      · rw [h]; exact hwB
    · exact (g2.mono (by omega)).fr (ms := [r]) (Fr.set (by simp)) (by simp; omega)
    · exact ((F1.trans F2).more (by simp)).trans (Fr.set (by simp))
  have skip : ∀ (st1 : Sto) (c1 : Nat), GS st1 s c1 → c1 ≤ c + 6 → Fr [s] st st1 → WdsAt st1 r ws ∧ ws.length = m ∧ (∀ w ∈ ws, Wd B w) ∧ GS st1 s (c + 60) ∧ Fr [s, r] st st1 := fun st1 c1 g1 hc1 F1 => ⟨at_fr hr F1 (by simpa using hrs), hl, hw, g1.mono (by omega), F1.more (by simp)⟩
  unfold oddB
  by_cases h1 : mode = 1
  · obtain ⟨ws', st', e, h⟩ := putin st c g (by omega) (Fr.refl _ _)
    refine ⟨ws', st', ?_, h⟩
    rw [if_t (st1 := st) (by simp [-sIx_eq, x4, eqD_int, h1])]
    exact e
  · by_cases h2 : mode = 2
    · obtain ⟨t, st1, e1, l1, g1, F1⟩ := f_takeI (m := 6) g (by omega) (by omega) (by omega)
      by_cases ht : t = 0
      · subst ht
        obtain ⟨ws', st', e, h⟩ := putin st1 _ g1 (by omega) F1
        refine ⟨ws', st', ?_, h⟩
        rw [if_t (st1 := st1) (by simp [-sIx_eq, x4, eqD_int, h2, e1])]
        exact e
      · refine ⟨ws, st1, ?_, skip st1 _ g1 (by omega) F1⟩
        rw [if_f (st1 := st1) (by simp [-sIx_eq, x4, eqD_int, h2, e1, ht])]
        simp
    · refine ⟨ws, st, ?_, skip st c g (by omega) (Fr.refl _ _)⟩
      have h1' : ¬ (mode : Int) = 1 := by omega
      have h2' : ¬ (mode : Int) = 2 := by omega
      rw [if_f (st1 := st) (by simp [-sIx_eq, x4, eqD_int, h1', h2'])]
      simp
noncomputable def cutB : SS := (qIf (c2 (ordD false true) (s1 lenD (sV (sJoin (sC (.str "")) (sV (sVar 4))))) (sV (sIx (sVar 1) (sC (.int 1))))) (qSet 4 (sNew (sSlO (sVar 4) pNone (pSome (s1 negD (sC (.int 1))))))) qNil)
/-- len("".join(words)) -/
theorem len_join {r : Nat} {ws : List Str} {ρ : En} {st : Sto} (h4 : ρ[4]? = some (some (.val (.ref r)))) (hr : WdsAt st r ws) (hs : lenSum ws ≤ 1000) : s1 lenD (sV (sJoin (sC (.str "")) (sV (sVar 4)))) ρ st = .ok (.int (lenSum ws)) st := by
  have e : sJoin (sC (.str "")) (sV (sVar 4)) ρ st = .ok (.str (Txt.join (Str.ofString "") ws)) st := by
    unfold sJoin
    rw [sC_eq, Out.bind_ok]
    simp only [sV_eq, sVar_eq, h4, Out.bind_ok, derefD_ref hr, join_ok hs]
  rw [s1_eq, sV_eq, e, Out.bind_ok, derefD_str, Out.bind_ok, join_len hs]
theorem lenSum_drop (ws : List Str) : lenSum ws.dropLast ≤ lenSum ws := by
  unfold lenSum
  induction ws with
  | nil => simp
  | cons w ws ih =>
    cases ws with
    | nil => simp
    | cons v vs =>
      rw [List.dropLast_cons_cons, List.map_cons, List.sum_cons, List.map_cons, List.sum_cons]
      omega
theorem turn_cut {s q r n m1 mode p m : Nat} {sg : Str} {ws : List Str} {st : Sto} {x3 x5 : Option Sl} (hp : PenAt st q n m1 sg mode p) (hr : WdsAt st r ws) (hs : lenSum ws ≤ 1000) :
    ∃ (r' : Nat) (ws' : List Str) (st' : Sto), cutB [some (.val (.ref s)), some (.val (.ref q)), some (.val (.int m)), x3, some (.val (.ref r)), x5] st = .ok (.nx [some (.val (.ref s)), some (.val (.ref q)), some (.val (.int m)), x3, some (.val (.ref r')), x5]) st' ∧
      WdsAt st' r' ws' ∧ ((lenSum ws ≤ m1 ∧ ws' = ws) ∨ (m1 < lenSum ws ∧ ws' = ws.dropLast)) ∧ Fr [] st st' ∧ (r' = r ∨ st.length ≤ r') := by
  have x1 : ∀ ρ : En, ρ[1]? = some (some (.val (.ref q))) → sIx (sVar 1) (sC (.int 1)) ρ st = .ok (.int m1) st := fun ρ hρ => ixR (n := q) 1 (by simp [hρ]) hp rfl
  have lj := len_join (ρ := [some (.val (.ref s)), some (.val (.ref q)), some (.val (.int m)), x3, some (.val (.ref r)), x5]) (st := st) rfl hr hs
  have ec : c2 (ordD false true) (s1 lenD (sV (sJoin (sC (.str "")) (sV (sVar 4))))) (sV (sIx (sVar 1) (sC (.int 1)))) [some (.val (.ref s)), some (.val (.ref q)), some (.val (.int m)), x3, some (.val (.ref r)), x5] st = .ok (decide ((m1 : Int) < (lenSum ws : Int))) st := by
    rw [c2_eq, lj, c2K_ok, sV_eq, x1 _ rfl, Out.bind_ok, derefD_int, c2K'_ok, ordD_ii]
    simp
  unfold cutB
  by_cases h : lenSum ws ≤ m1
  · refine ⟨r, ws, st, ?_, hr, .inl ⟨h, rfl⟩, Fr.refl _ _, .inl rfl⟩
    rw [if_f (st1 := st) (by rw [ec]; congr 1; simp; omega)]
    simp
  · refine ⟨st.length, ws.dropLast, st ++ [some (.lst (ws.dropLast.map .str))], ?_, by show (st ++ _)[st.length]? = _; simp, .inr ⟨by omega, rfl⟩, Fr.push, .inr (Nat.le_refl _)⟩
    rw [if_t (st1 := st) (by rw [ec]; congr 1; simp; omega)]
    have esl : sSlO (sVar 4) pNone (pSome (s1 negD (sC (.int 1)))) [some (.val (.ref s)), some (.val (.ref q)), some (.val (.int m)), x3, some (.val (.ref r)), x5] st = .ok (ws.dropLast.map .str) st := by
      unfold sSlO
      simp [derefD_ref hr]
      rw [cut_last]
    rw [qSet_eq, sNew_eq, esl]
    simp
end KP
set_option Elab.async false
set_option linter.all false
set_option maxRecDepth 100000
set_option maxHeartbeats 1000000
set_option autoImplicit false
set_option exponentiation.threshold 5000
/-! RJ: the plain law: _law_branch_words. -/
namespace KP
open PySem PySem.Spec PyProof.Rows L2 Ds KG
theorem Fr.keep {ms ns : List Nat} {a b : Sto} (h : Fr ms a b) (k : ∀ m ∈ ms, m ∈ ns ∨ a.length ≤ m) : Fr ns a b := ⟨h.1, fun j hj hm => h.2 j hj fun z => by
  rcases k j z with q | q
  · exact hm q
  · omega⟩
theorem Fr.keepF {ms ns : List Nat} {a b c : Sto} (h : Fr ns a b) (h2 : Fr ms b c) (k : ∀ m ∈ ms, m ∈ ns ∨ a.length ≤ m) : Fr ns a c := ⟨Nat.le_trans h.1 h2.1, fun j hj hm => by
  rw [h2.2 j (Nat.lt_of_lt_of_le hj h.1) (fun z => by
    rcases k j z with q | q
    · exact hm q
    · omega), h.2 j hj hm]⟩
/-- the words of a table, a choice or a list -/
theorem f_bwords {s q n m1 mode p c m : Nat} {up : Bool} {sg : Str} {st : Sto} (g : GS st s c) (hc : c ≤ 2 ^ 59) (hp : PenAt st q n m1 sg mode p) (hsg : Sg sg) (hqs : q ≠ s) (hm1 : 1 ≤ m) (hm : m ≤ 10) :
    ∃ (r : Nat) (ws : List Str) (st' : Sto), F__law_branch_words [.ref s, .ref q, .int m, .bl up] st = .ok (.val (.ref r)) st' ∧ WdsAt st' r ws ∧ 1 ≤ ws.length ∧ ws.length ≤ m ∧ (∀ w ∈ ws, Wd 5 w) ∧ lenSum ws ≤ m1 ∧ (m = 2 → 6 ≤ m1 → ws.length = 2) ∧
      PenAt st' q n (m1 - lenSum ws) sg mode p ∧ GS st' s (c + 1000) ∧ Fr [s, q] st st' ∧ st.length ≤ r := by
  have hql := (List.getElem?_eq_some_iff.mp hp).1
  have hsl := g.lt
  generalize hL : st.length = L at *
  -- split
  obtain ⟨W, st1, e1, hWl, hWw, g1, F1⟩ := f_split g (by omega) hsg hm1 hm
  have hL1 : L ≤ st1.length := by rw [← hL]; exact F1.1
  generalize hst2 : st1 ++ [some (MO.lst (W.map .str))] = st2
  have F2 : Fr [s] st st2 := F1.trans (by rw [← hst2]; exact Fr.push)
  have g2 : GS st2 s (c + 200) := g1.fr (ms := []) (by rw [← hst2]; exact Fr.push) (by simp)
  have hr2 : WdsAt st2 st1.length W := by
    show st2[st1.length]? = _
    rw [← hst2]; simp
  -- turn
  have tn : ∃ (r3 : Nat) (W3 : List Str) (st3 : Sto), qIf (bNot (sTst (sVar 3))) (qSet 4 (sNew (sRevO (sVar 4)))) qNil [some (.val (.ref s)), some (.val (.ref q)), some (.val (.int m)), some (.val (.bl up)), some (.val (.ref st1.length)), none] st2 =
      .ok (.nx [some (.val (.ref s)), some (.val (.ref q)), some (.val (.int m)), some (.val (.bl up)), some (.val (.ref r3)), none]) st3 ∧ WdsAt st3 r3 W3 ∧ W3.length = m ∧ (∀ w ∈ W3, Wd (min 5 m) w) ∧ GS st3 s (c + 200) ∧ Fr [s] st st3 ∧ L ≤ r3 := by
    cases up with
    | true =>
      refine ⟨st1.length, W, st2, ?_, hr2, hWl, hWw, g2, F2, hL1⟩
      rw [if_f (st1 := st2) (by simp)]
      simp
    | false =>
      refine ⟨st2.length, W.reverse, st2 ++ [some (.lst (W.reverse.map .str))], ?_, by show (st2 ++ _)[st2.length]? = _; simp, by rw [List.length_reverse]; exact hWl, fun w hw => hWw w (List.mem_reverse.mp hw), g2.fr (ms := []) Fr.push (by simp), F2.trans Fr.push, by rw [← hst2, List.length_append]; omega⟩
      rw [if_t (st1 := st2) (by simp)]
      have er : sRevO (sVar 4) [some (.val (.ref s)), some (.val (.ref q)), some (.val (.int m)), some (.val (.bl false)), some (.val (.ref st1.length)), none] st2 = .ok (W.reverse.map .str) st2 := by
        unfold sRevO
        simp [derefD_ref hr2]
      rw [qSet_eq, sNew_eq, er]
      simp
  obtain ⟨r3, W3, st3, e3, hr3, hl3, hw3, g3, F3, hLr⟩ := tn
  have hp3 := hp.fr F3 (by simpa using hqs)
  have hrs : r3 ≠ s := by omega
  have hrq : r3 ≠ q := by omega
  -- odd words
  obtain ⟨ρ4, st4, e4, hI4⟩ := for_inv (step := stepT (.nm 5) oddB) (fun i ρ st' => ∃ (ws : List Str) (x5 : Option Sl), WdsAt st' r3 ws ∧ ws.length = m ∧ (∀ w ∈ ws, Wd (max 3 (min 5 m)) w) ∧ GS st' s (c + 200 + 60 * i) ∧ Fr [s, r3] st3 st' ∧
      ρ = [some (.val (.ref s)), some (.val (.ref q)), some (.val (.int m)), some (.val (.bl up)), some (.val (.ref r3)), x5]) (rng 0 1 m) 0 [some (.val (.ref s)), some (.val (.ref q)), some (.val (.int m)), some (.val (.bl up)), some (.val (.ref r3)), none] st3
    ⟨W3, none, hr3, hl3, fun w hw => (hw3 w hw).mono (by omega), g3, Fr.refl _ _, rfl⟩ (fun i d ρ st' hi hI => by
      obtain ⟨ws, x5, h1, h2, h3, g', F', rfl⟩ := hI
      obtain ⟨hi2, rfl⟩ := rng_at hi
      rw [Nat.zero_add] at *
      obtain ⟨ws', st'', e, h1', h2', h3', g'', F''⟩ := turn_odd (i := i) (x3 := some (.val (.bl up))) g' (by omega) (hp3.fr F' (by simp; omega)) hsg h1 hqs hrs hrq h2 hm hi2 (by omega) h3
      refine sat_of (by rw [stepT_nm (by simp)]; exact e) ?_
      exact ⟨ws', _, h1', h2', h3', g''.mono (by omega), F'.trans F'', rfl⟩)
  obtain ⟨W4, x5, hr4, hl4, hw4, g4, F4, rfl⟩ := hI4
  have el : (rng 0 1 m).length = m := by unfold rng; rw [List.length_map, List.length_range]
  rw [Nat.zero_add, el] at g4
  have hp4 := hp3.fr F4 (by simp; omega)
  have F04 : Fr [s] st st4 := F3.keepF F4 (by simp; omega)
  have hs4 : lenSum W4 ≤ 5 * W4.length := lenSum_le W4 fun w hw => by
    have := (hw4 w hw).1
    omega
  -- trimmed
  obtain ⟨ρ5, st5, e5, hI5⟩ := for_inv (step := stepT (.nm 5) cutB) (fun i ρ st' => ∃ (r : Nat) (ws : List Str) (x5 : Option Sl), WdsAt st' r ws ∧ ws.length ≤ m ∧ (∀ w ∈ ws, w ∈ W4) ∧ lenSum ws ≤ 50 ∧ (lenSum ws ≤ m1 ∨ ws.length + i ≤ m) ∧ (lenSum W4 ≤ m1 → ws = W4) ∧ Fr [] st4 st' ∧ L ≤ r ∧
      ρ = [some (.val (.ref s)), some (.val (.ref q)), some (.val (.int m)), some (.val (.bl up)), some (.val (.ref r)), x5]) (rng 0 1 m) 0 [some (.val (.ref s)), some (.val (.ref q)), some (.val (.int m)), some (.val (.bl up)), some (.val (.ref r3)), x5] st4
    ⟨r3, W4, x5, hr4, by omega, fun w hw => hw, by omega, .inr (by omega), fun _ => rfl, Fr.refl _ _, hLr, rfl⟩ (fun i d ρ st' hi hI => by
      obtain ⟨r, ws, x5, h1, h2, h3, h4, h5, h6, F', hr, rfl⟩ := hI
      obtain ⟨hi2, rfl⟩ := rng_at hi
      rw [Nat.zero_add] at *
      obtain ⟨r', ws', st'', e, h1', hc', F'', hr'⟩ := turn_cut (m := m) (x3 := some (.val (.bl up))) (x5 := some (.val (.int i))) (hp4.fr F' (by simp)) h1 (by omega)
      have hLs : L ≤ st'.length := by
        have := F04.1
        have := F'.1
        omega
      refine sat_of (by rw [stepT_nm (by simp)]; exact e) ?_
      rcases hc' with ⟨hc1, rfl⟩ | ⟨hc1, rfl⟩
      · exact ⟨r', ws', _, h1', h2, h3, h4, .inl hc1, h6, F'.trans F'', by omega, rfl⟩
      · have hd := lenSum_drop ws
        have hne : ws ≠ [] := by
          intro z
          rw [z] at hc1
          simp [lenSum] at hc1
        have hdl : ws.dropLast.length + 1 = ws.length := by
          rw [List.length_dropLast]
          have : 0 < ws.length := List.length_pos_iff.mpr hne
          omega
        exact ⟨r', ws.dropLast, _, h1', by omega, fun w hw => h3 w (by rw [List.dropLast_eq_take] at hw; exact List.mem_of_mem_take hw), by omega, by omega, fun z => absurd (h6 z ▸ hc1) (by omega), F'.trans F'', by omega, rfl⟩)
  obtain ⟨r5, W5, x6, hr5, hl5, hw5, hs5, hd5, hk5, F5, hL5, rfl⟩ := hI5
  rw [Nat.zero_add, el] at hd5
  have hd5' : lenSum W5 ≤ m1 := by
    rcases hd5 with h | h
    · exact h
    · have : W5 = [] := List.length_eq_zero_iff.mp (by omega)
      rw [this]
      exact Nat.zero_le _
  have hp5 := hp4.fr F5 (by simp)
  have F05 : Fr [s] st st5 := F04.keepF F5 (by simp)
  have g5 := g4.fr F5 (by simp)
  -- never empty
  have ne : ∃ (r6 : Nat) (W6 : List Str) (st6 : Sto), qIf (c2 eqR (sVar 4) (sV (sF (sLst sNil)))) (qSet 4 (sNew (sLst (sCons (sC (.str "")) sNil)))) qNil [some (.val (.ref s)), some (.val (.ref q)), some (.val (.int m)), some (.val (.bl up)), some (.val (.ref r5)), x6] st5 =
      .ok (.nx [some (.val (.ref s)), some (.val (.ref q)), some (.val (.int m)), some (.val (.bl up)), some (.val (.ref r6)), x6]) st6 ∧ WdsAt st6 r6 W6 ∧ 1 ≤ W6.length ∧ W6.length ≤ m ∧ (∀ w ∈ W6, Wd 5 w) ∧ lenSum W6 ≤ m1 ∧ lenSum W6 ≤ 50 ∧ (W5 ≠ [] → W6 = W5) ∧ Fr [] st5 st6 ∧ L ≤ r6 := by
    have eq : eqR (.ref r5) (.lst []) st5 = .ok W5.isEmpty st5 := by
      rw [eqR_ref hr5, eqD_nil (strs_plain W5)]
      simp
    cases hW : W5 with
    | nil =>
      rw [hW] at eq
      refine ⟨st5.length, [Str.ofString ""], st5 ++ [some (.lst [.str (Str.ofString "")])], ?_, by show (st5 ++ _)[st5.length]? = _; simp, Nat.le_refl _, hm1, fun w hw => ?_, by show lenSum [Str.ofString ""] ≤ m1; exact Nat.le_trans (show lenSum [Str.ofString ""] ≤ 0 by decide +kernel) (Nat.zero_le _), by decide +kernel, fun z => absurd rfl z, Fr.push, by have := F05.1; omega⟩
      · rw [if_t (st1 := st5) (by simp [smallLine, eq])]
        simp [smallLine]
      · rw [List.mem_singleton.mp hw]
        exact ⟨by decide +kernel, by decide +kernel⟩
    | cons w ws =>
      rw [hW] at eq
      refine ⟨r5, W5, st5, ?_, hr5, by rw [hW]; simp, hl5, fun x hx => (hw4 x (hw5 x hx)).mono (by omega), hd5', hs5, fun _ => hW, Fr.refl _ _, hL5⟩
      rw [if_f (st1 := st5) (by simp [smallLine, eq])]
      simp
  obtain ⟨r6, W6, st6, e6, hr6, h61, h6m, hw6, hs6, hs6', hk6, F6, hL6⟩ := ne
  have hp6 := hp5.fr F6 (by simp)
  have lj := len_join (ρ := [some (.val (.ref s)), some (.val (.ref q)), some (.val (.int m)), some (.val (.bl up)), some (.val (.ref r6)), x6]) (st := st6) rfl hr6 (by omega)
  have x1 : ∀ ρ : En, ρ[1]? = some (some (.val (.ref q))) → sIx (sVar 1) (sC (.int 1)) ρ st6 = .ok (.int m1) st6 := fun ρ hρ => ixR (n := q) 1 (by simp [hρ]) hp6 rfl
  have e7 : qSetR (s2 subD (sIx (sVar 1) (sC (.int 1))) (s1 lenD (sV (sJoin (sC (.str "")) (sV (sVar 4)))))) (sVar 1) (sC (.int 1)) [some (.val (.ref s)), some (.val (.ref q)), some (.val (.int m)), some (.val (.bl up)), some (.val (.ref r6)), x6] st6 =
      .ok (.nx [some (.val (.ref s)), some (.val (.ref q)), some (.val (.int m)), some (.val (.bl up)), some (.val (.ref r6)), x6]) (st6.set q (some (.lst [.int n, .int (m1 - lenSum W6 : Nat), .str sg, .int 3, .int mode, .ref p]))) :=
    setR_go (n := q) (j := 1) (y := .int ((m1 - lenSum W6 : Nat) : Int)) (xs := [.int n, .int m1, .str sg, .int 3, .int mode, .ref p]) (by
      rw [s2_eq, x1 _ rfl, s2K_ok, lj, s2K'_ok, subD_ii]
      congr 2
      omega) (by simp) (by simp) hp6 (by simp)
  refine ⟨r6, W6, _, ?_, ?_, h61, h6m, hw6, hs6, fun h2 h6 => ?_, set_at hp6, (g5.mono (by omega)).fr (ms := [q]) (st' := st6.set q _) ?_ (by simpa using fun z => hqs z.symm), ?_, hL6⟩
  · have b : B__law_branch_words [some (.val (.ref s)), some (.val (.ref q)), some (.val (.int m)), some (.val (.bl up)), none, none] st = .ok (.rt (.val (.ref r6))) (st6.set q (some (.lst [.int n, .int (m1 - lenSum W6 : Nat), .str sg, .int 3, .int mode, .ref p]))) := by
      unfold oddB at e4
      unfold cutB at e5
      unfold B__law_branch_words
      have x2 : ∀ ρ : En, ρ[1]? = some (some (.val (.ref q))) → sIx (sVar 1) (sC (.int 2)) ρ st = .ok (.str sg) st := fun ρ hρ => ixR (n := q) 2 (by simp [hρ]) hp rfl
      rw [seq_go (ρ1 := [some (.val (.ref s)), some (.val (.ref q)), some (.val (.int m)), some (.val (.bl up)), some (.val (.ref st1.length)), none]) (st1 := st2) (by simp [-sIx_eq, x2, e1, hst2])]
      rw [seq_go e3, seq_go (for_go (r1_nat (n := m) (by simp) (by omega)) e4), seq_go (for_go (r1_nat (n := m) (by simp) (by omega)) e5), seq_go e6, seq_go e7]
      simp
    unfold F__law_branch_words
    simp [b]
  · show (st6.set q _)[r6]? = _
    rw [List.getElem?_set_ne (by omega)]
    exact hr6
  · have hs2 : lenSum W4 ≤ 6 := by
      have := lenSum_le (n := 3) W4 fun w hw => by
        have := (hw4 w hw).1
        omega
      omega
    have h5 := hk5 (by omega)
    rw [hk6 (by rw [h5]; intro z; rw [z] at hl4; simp at hl4; omega), h5]
    omega
  · exact (F6.more (by simp)).trans (Fr.set (by simp))
  · exact ((F05.more (by simp)).keepF F6 (by simp)).trans (Fr.set (by simp))
end KP
set_option Elab.async false
set_option linter.all false
set_option maxRecDepth 100000
set_option maxHeartbeats 1000000
set_option autoImplicit false
set_option exponentiation.threshold 5000
/-! RK: the plain law: _law_some_kind, its cases. -/
namespace KP
open PySem PySem.Spec PyProof.Rows L2 Ds KG
/-- what the maker of kinds works on -/
def WS (st : Sto) (s q p : Nat) (sg : Str) (mode c n m : Nat) : Prop := GS st s c ∧ PenAt st q n m sg mode p ∧ ∃ ps : List Str, WdsAt st p ps ∧ (∀ z ∈ ps, GoodName z) ∧ ps.length ≤ c
structure Apart3 (s q p : Nat) : Prop where
  qs : q ≠ s
  ps : p ≠ s
  pq : p ≠ q
theorem WS.mono {st : Sto} {s q p mode c d n m : Nat} {sg : Str} (h : WS st s q p sg mode c n m) (k : c ≤ d) : WS st s q p sg mode d n m := by
  obtain ⟨g, hp, ps, h1, h2, h3⟩ := h
  exact ⟨g.mono k, hp, ps, h1, h2, by omega⟩
/-- what a call of the maker gives -/
def Makes (FR : SemF) (N s q p : Nat) (sg : Str) (mode : Nat) : Prop := ∀ (st : Sto) (c n m deep : Nat) (up : Bool), WS st s q p sg mode c n m → n < N → c + 3000 * (n + 1) ≤ 90000 →
  ∃ (k : Kd) (st' : Sto) (n' m' : Nat), FR [.ref s, .ref q, .int deep, .bl up] st = .ok (.val k.D) st' ∧ k.ok ∧ k.size + n' = n + 1 ∧ k.letters + m' = m ∧ dep k ≤ deep ∧ WS st' s q p sg mode (c + 3000 * k.size) n' m' ∧ Fr [s, q, p] st st'
/-- the children, one by one -/
theorem kids_go {N s q p mode : Nat} {sg : Str} {it : IT} {step : D → Sto → Out (Option D)} {ds : List D} {st0 : Sto} {deep : Nat} (hF : ∀ (st : Sto) (c n m : Nat), WS st s q p sg mode c n m → n < N → c + 3000 * (n + 1) ≤ 90000 → Fr [s, q, p] st0 st → ∀ d ∈ ds,
      ∃ (k : Kd) (st' : Sto) (n' m' : Nat), step d st = .ok (some k.D) st' ∧ k.ok ∧ k.size + n' = n + 1 ∧ k.letters + m' = m ∧ dep k ≤ deep ∧ WS st' s q p sg mode (c + 3000 * k.size) n' m' ∧ Fr [s, q, p] st st')
    (hnow : ∀ st', Fr [s, q, p] st0 st' → it.now st' = some ds) (hds : ds.length ≤ 10) : ∀ (rest : List D) (i : Nat) (acc : List Kd) (st : Sto) (c n m : Nat), Fr [s, q, p] st0 st → ds.drop i = rest → acc.length = i → WS st s q p sg mode c n m → n < N → c + 3000 * (n + rest.length) ≤ 90000 →
    ∃ (ks : List Kd) (st' : Sto) (n' m' : Nat), lcF it step (rest.length + 1) i (acc.map Kd.D) st = .ok ((acc ++ ks).map Kd.D) st' ∧ ks.length = rest.length ∧ Kd.oks ks ∧ Kd.sizes ks + n' = n + rest.length ∧ Kd.letterss ks + m' = m ∧ deps ks ≤ deep ∧ WS st' s q p sg mode (c + 3000 * Kd.sizes ks) n' m' ∧ Fr [s, q, p] st st'
  | [], i, acc, st, c, n, m, F0, hr, hi, w, _, _ => by
    refine ⟨[], st, n, m, ?_, rfl, by unfold Kd.oks; trivial, by simp [Kd.sizes], by simp [Kd.letterss], by simp [deps], by simpa [Kd.sizes] using w, Fr.refl _ _⟩
    have : ds[i]? = none := by
      rw [List.getElem?_eq_none_iff]
      exact List.drop_eq_nil_iff.mp hr
    unfold lcF
    simp only [hnow st F0, this]
    simp
  | d :: rest, i, acc, st, c, n, m, F0, hr, hi, w, hN, hc => by
    rw [List.length_cons] at hc
    have h1 : ds[i]? = some d := by
      have := congrArg (fun l => l[0]?) hr
      simpa using this
    have h2 : ds.drop (i + 1) = rest := by
      have := congrArg (fun l => l.drop 1) hr
      simpa using this
    have hil := (List.getElem?_eq_some_iff.mp h1).1
    obtain ⟨k, st1, n1, m1, e1, k1, k2, k3, k4, w1, F1⟩ := hF st c n m w hN (by omega) F0 d (List.mem_of_getElem? h1)
    have hkp := size_pos k
    obtain ⟨ks, st2, n2, m2, e2, q1, q2, q3, q4, q5, w2, F2⟩ := kids_go hF hnow hds rest (i + 1) (acc ++ [k]) st1 (c + 3000 * k.size) n1 m1 (F0.trans F1) h2 (by simp [hi]) w1 (by omega) (by omega)
    refine ⟨k :: ks, st2, n2, m2, ?_, by rw [List.length_cons, q1, List.length_cons], by unfold Kd.oks; exact ⟨k1, q2⟩, by rw [Kd.sizes, List.length_cons]; omega, by rw [Kd.letterss]; omega, by rw [deps]; omega, by rw [Kd.sizes, show c + 3000 * (k.size + Kd.sizes ks) = c + 3000 * k.size + 3000 * Kd.sizes ks from by omega]; exact w2, F1.trans F2⟩
    rw [List.length_cons]
    unfold lcF
    simp only [hnow st F0, h1]
    rw [e1, Out.bind_ok]
    show (if _ then _ else _) = _
    rw [if_pos (by rw [List.length_map, sizeLine_eq]; omega)]
    rw [List.map_append] at e2
    rw [show acc.map Kd.D ++ [k.D] = acc.map Kd.D ++ [k].map Kd.D from rfl, e2, List.append_assoc]
    rfl
theorem wd_good {n : Nat} {w : Str} (h : Wd n w) (k : n ≤ 8) : GoodWord w := ⟨Nat.le_trans h.1 k, h.2⟩
theorem zip_fst {α β : Type} : ∀ (xs : List α) (ys : List β), xs.length = ys.length → (xs.zip ys).map (·.1) = xs
  | [], [], _ => rfl
  | x :: xs, y :: ys, h => by
    rw [List.zip_cons_cons, List.map_cons, zip_fst xs ys (by simpa using h)]
  | [], y :: ys, h => by simp at h
  | x :: xs, [], h => by simp at h
theorem zip_snd {α β : Type} : ∀ (xs : List α) (ys : List β), xs.length = ys.length → (xs.zip ys).map (·.2) = ys
  | [], [], _ => rfl
  | x :: xs, y :: ys, h => by
    rw [List.zip_cons_cons, List.map_cons, zip_snd xs ys (by simpa using h)]
  | [], y :: ys, h => by simp at h
  | x :: xs, [], h => by simp at h
theorem goodEs_zip {ns ws : List Str} (h : ns.length = ws.length) (hn : ns.Nodup) (hg : ∀ z ∈ ns, GoodName z) (hw : ∀ w ∈ ws, GoodWord w) (h1 : 1 ≤ ws.length) : GoodEs (ns.zip ws) := by
  refine ⟨fun z => ?_, fun x hx => ⟨hg _ (List.of_mem_zip hx).1, hw _ (List.of_mem_zip hx).2⟩, by rw [zip_fst ns ws h]; exact hn⟩
  have := congrArg List.length z
  rw [List.length_zip, List.length_nil] at this
  omega
/-- an item of a shared list of texts, its number in a slot -/
theorem ixW {r i j k : Nat} {ws : List Str} {w : Str} {ρ : En} {st : Sto} (h1 : ρ[i]? = some (some (.val (.ref r)))) (h2 : ρ[j]? = some (some (.val (.int (k : Nat))))) (hr : WdsAt st r ws) (hk : ws[k]? = some w) : sIx (sVar i) (sVar j) ρ st = .ok (.str w) st := by
  rw [sIx_eq, sVar_eq, h1]
  simp only [ixK_ok, sVar_eq, h2, ixK2_ok, derefD_ref hr, ixK3_ok]
  rw [idx_lst (by rw [List.getElem?_map, hk]; rfl)]
theorem lenR {r i : Nat} {ws : List Str} {ρ : En} {st : Sto} (h1 : ρ[i]? = some (some (.val (.ref r)))) (hr : WdsAt st r ws) : s1 lenD (sV (sVar i)) ρ st = .ok (.int ws.length) st := by
  rw [s1_eq, sV_eq, sVar_eq, h1]
  simp only [Out.bind_ok, derefD_ref hr, lenD_lst, List.length_map]
def sizes10 : List Nat := [1, 2, 2, 2, 3, 3, 4, 5, 7, 10]
theorem sizes10_ok : ∀ n ∈ sizes10, 1 ≤ n ∧ n ≤ 10 := by decide
noncomputable def leafB : SS := (qSeq (qIf (c2 eqD (sCall F__law_take [] (sCons (sVar 0) (sCons (sC (.int 8)) sNil))) (sV (sC (.int 0)))) (qRet (sTup (sCons (sC (.str "row")) (sCons (sTup sNil) sNil)))) qNil) (qSeq (qSet 6 (sCall F__law_branch_words [] (sCons (sVar 0) (sCons (sVar 1) (sCons (sCall F__law_pick [] (sCons (sVar 0) (sCons (sF (sLst (sCons (sC (.int 1)) (sCons (sC (.int 2)) (sCons (sC (.int 2)) (sCons (sC (.int 2)) (sCons (sC (.int 3)) (sCons (sC (.int 3)) (sCons (sC (.int 4)) (sCons (sC (.int 5)) (sCons (sC (.int 7)) (sCons (sC (.int 10)) sNil)))))))))))) sNil))) (sCons (sVar 3) sNil)))))) (qSeq (qSet 9 (sCall F__law_pool_names [] (sCons (sVar 0) (sCons (s1 lenD (sV (sVar 6))) (sCons (sIx (sVar 1) (sC (.int 5))) sNil))))) (qRet (sTup (sCons (sC (.str "table")) (sCons (s1 tupOfD (sV (sF (sLc (sItA r1D (sCons (s1 lenD (sV (sVar 6))) sNil)) (.nm 12) bYes (sTup (sCons (sIx (sVar 9) (sVar 12)) (sCons (sIx (sVar 6) (sVar 12)) sNil))) [12])))) sNil)))))))
/-- the first slots of the maker -/
def Four (s q deep : Nat) (up : Bool) (x4 : Option Sl) (a b c d e f g h : Option Sl) : En := [some (.val (.ref s)), some (.val (.ref q)), some (.val (.int deep)), some (.val (.bl up)), x4, a, b, c, d, e, f, g, h]
theorem f_leaf {s q p mode c n m deep : Nat} {up : Bool} {sg : Str} {st : Sto} {x4 : Option Sl} (ha : Apart3 s q p) (hsg : Sg sg) (w : WS st s q p sg mode c n m) (hc : c + 2990 ≤ 90000) :
    ∃ (k : Kd) (st' : Sto) (n' m' : Nat), leafB (Four s q deep up x4 none none none none none none none none) st = .ok (.rt (.val k.D)) st' ∧ k.ok ∧ k.size + n' = n + 1 ∧ k.letters + m' = m ∧ dep k ≤ deep ∧ WS st' s q p sg mode (c + 3000 * k.size - 10) n' m' ∧ Fr [s, q, p] st st' := by
  obtain ⟨g, hp, ps, hps, hpg, hpl⟩ := id w
  obtain ⟨t1, st1, e1, l1, g1, F1⟩ := f_takeI (m := 8) g (by omega) (by omega) (by omega)
  have hp1 := hp.fr F1 (by simpa using ha.qs)
  have hps1 : WdsAt st1 p ps := at_fr hps F1 (by simpa using ha.ps)
  unfold leafB Four
  by_cases h1 : t1 = 0
  · subst h1
    refine ⟨.mk .row [], st1, n, m, seq_rt ?_, ?_, by simp only [Kd.size, Kd.sizes]; omega, by simp [Kd.letters, Kd.letterss, Lab.words, lenSum], by simp [dep, deps, Lab.isL], ⟨g1.mono (by simp only [Kd.size, Kd.sizes]; omega), hp1, ps, hps1, hpg, by simp only [Kd.size, Kd.sizes]; omega⟩, F1.more (by simp)⟩
    · rw [if_t (st1 := st1) (by simp [e1, eqD_int])]
      simp [smallLine, kd_eq, Lab.D, Kd.Ds]
    · unfold Kd.ok Kd.oks
      exact ⟨⟨by show 0 ≤ 6; omega, trivial⟩, trivial⟩
  · rw [seq_go (ρ1 := Four s q deep up x4 none none none none none none none none) (st1 := st1) (by
      rw [if_f (st1 := st1) (by simp [e1, eqD_int, h1])]
      simp [Four])]
    unfold Four
    obtain ⟨y, st2, e2, hy, g2, F2⟩ := pick_lst (xs := sizes10.map fun (n : Nat) => D.int n) g1 (by omega) (by simp [sizes10]) (by simp [sizes10])
    obtain ⟨j, hj, rfl⟩ := List.mem_map.mp hy
    obtain ⟨j1, j2⟩ := sizes10_ok j hj
    have e2' : F__law_pick [.ref s, .lst [.int 1, .int 2, .int 2, .int 2, .int 3, .int 3, .int 4, .int 5, .int 7, .int 10]] st1 = .ok (.val (.int j)) st2 := e2
    have hp2 := hp1.fr F2 (by simpa using ha.qs)
    have hps2 : WdsAt st2 p ps := at_fr hps1 F2 (by simpa using ha.ps)
    obtain ⟨r, ws, st3, e3, hr3, w1, w2, w3, w4, w5, hp3, g3, F3, hr⟩ := f_bwords (up := up) g2 (by omega) hp2 hsg ha.qs j1 j2
    have hps3 : WdsAt st3 p ps := at_fr hps2 F3 (by simp [ha.ps, ha.pq])
    have hsl := g2.lt
    have hql := (List.getElem?_eq_some_iff.mp hp2).1
    have hpl2 := (List.getElem?_eq_some_iff.mp hps2).1
    rw [seq_go (ρ1 := [some (.val (.ref s)), some (.val (.ref q)), some (.val (.int deep)), some (.val (.bl up)), x4, none, some (.val (.ref r)), none, none, none, none, none, none]) (st1 := st3) (by simp [smallLine, e2', e3])]
    obtain ⟨ns, st4, e4, n1, n2, n3, n4, n5, g4, F4⟩ := f_pool (m := ws.length) g3 (by omega) hps3 ha.ps (by omega) (by omega) hpg
    have hr4 : WdsAt st4 r ws := at_fr hr3 F4 (by simp; omega)
    have hp4 := hp3.fr F4 (by simp [ha.qs, ha.pq.symm])
    have x5 : ∀ ρ : En, ρ[1]? = some (some (.val (.ref q))) → sIx (sVar 1) (sC (.int 5)) ρ st3 = .ok (.ref p) st3 := fun ρ hρ => ixR (n := q) 5 (by simp [hρ]) hp3 rfl
    have l3 := lenR (i := 6) (ρ := [some (.val (.ref s)), some (.val (.ref q)), some (.val (.int deep)), some (.val (.bl up)), x4, none, some (.val (.ref r)), none, none, none, none, none, none]) rfl hr3
    rw [seq_go (ρ1 := [some (.val (.ref s)), some (.val (.ref q)), some (.val (.int deep)), some (.val (.bl up)), x4, none, some (.val (.ref r)), none, none, some (.val (.ref st3.length)), none, none, none]) (st1 := st4) (by
      rw [qSet_eq, sCall_eq, sCons_eq, sVar_eq]
      simp only [List.getElem?_cons_zero, consK_ok]
      rw [sCons_eq, l3, consK_ok, sCons_eq, x5 _ rfl, consK_ok, sNil_eq]
      simp [e4])]
    refine ⟨.mk (.table (ns.zip ws)) [], st4, n, m - lenSum ws, ?_, ?_, by simp only [Kd.size, Kd.sizes]; omega, ?_, by simp [dep, deps, Lab.isL], ⟨g4.mono (by simp only [Kd.size, Kd.sizes]; omega), hp4, ps ++ ns, n5, fun z hz => ?_, by rw [List.length_append]; simp only [Kd.size, Kd.sizes]; omega⟩, ?_⟩
    · have hzl : (ns.zip ws).length = ws.length := by rw [List.length_zip]; omega
      have elc : lcL (stepC (.nm 12) bYes (sTup (sCons (sIx (sVar 9) (sVar 12)) (sCons (sIx (sVar 6) (sVar 12)) sNil))) [some (.val (.ref s)), some (.val (.ref q)), some (.val (.int deep)), some (.val (.bl up)), x4, none, some (.val (.ref r)), none, none, some (.val (.ref st3.length)), none, none, none]) ((List.range ws.length).map fun (i : Nat) => D.int i) [] st4 = .ok ((ns.zip ws).map pairD) st4 := by
        have hm : (ns.zip ws).map pairD = (List.range ws.length).map fun i => pairD ((ns.zip ws).getD i (Str.ofString "", Str.ofString "")) := by
          have h := range_getD (Str.ofString "", Str.ofString "") (ns.zip ws)
          rw [hzl] at h
          conv => lhs; rw [← h]
          rw [List.map_map]; rfl
        rw [hm]
        refine lc_mp (List.range ws.length) (fun i hi => ?_) (by rw [List.length_range]; omega)
        have hi := List.mem_range.mp hi
        have a1 := List.getElem?_eq_getElem (l := ns) (i := i) (by omega)
        have a2 := List.getElem?_eq_getElem (l := ws) (i := i) hi
        have a3 : (ns.zip ws)[i]? = some (ns[i], ws[i]) := by rw [List.getElem?_zip_eq_some]; exact ⟨a1, a2⟩
        have hb : (Tgt.nm 12).bind (.int (i : Nat)) [some (.val (.ref s)), some (.val (.ref q)), some (.val (.int deep)), some (.val (.bl up)), x4, none, some (.val (.ref r)), none, none, some (.val (.ref st3.length)), none, none, none] = some [some (.val (.ref s)), some (.val (.ref q)), some (.val (.int deep)), some (.val (.bl up)), x4, none, some (.val (.ref r)), none, none, some (.val (.ref st3.length)), none, none, some (.val (.int (i : Nat)))] := by simp
        rw [stepC_eq, hb]
        have b1 := ixW (i := 9) (j := 12) (ρ := [some (.val (.ref s)), some (.val (.ref q)), some (.val (.int deep)), some (.val (.bl up)), x4, none, some (.val (.ref r)), none, none, some (.val (.ref st3.length)), none, none, some (.val (.int (i : Nat)))]) rfl rfl n4 a1
        have b2 := ixW (i := 6) (j := 12) (ρ := [some (.val (.ref s)), some (.val (.ref q)), some (.val (.int deep)), some (.val (.bl up)), x4, none, some (.val (.ref r)), none, none, some (.val (.ref st3.length)), none, none, some (.val (.int (i : Nat)))]) rfl rfl hr4 a2
        show shield (turnC bYes _ _ st4) = _
        rw [turnC_eq, bYes_eq, tcK_t, sTup_eq, sCons_eq, b1, consK_ok, sCons_eq, b2, consK_ok, sNil_eq]
        rw [List.getD_eq_getElem?_getD, a3]
        simp [smallLine, pairD]
      have l4 := lenR (i := 6) (ρ := [some (.val (.ref s)), some (.val (.ref q)), some (.val (.int deep)), some (.val (.bl up)), x4, none, some (.val (.ref r)), none, none, some (.val (.ref st3.length)), none, none, none]) rfl hr4
      have er : rng 0 1 ws.length = (List.range ws.length).map fun (i : Nat) => D.int i := by
        unfold rng
        refine List.map_congr_left fun i _ => ?_
        show D.int (0 + (i : Int) * 1) = D.int i
        rw [Int.zero_add, Int.mul_one]
      have esl : sLc (sItA r1D (sCons (s1 lenD (sV (sVar 6))) sNil)) (.nm 12) bYes (sTup (sCons (sIx (sVar 9) (sVar 12)) (sCons (sIx (sVar 6) (sVar 12)) sNil))) [12] [some (.val (.ref s)), some (.val (.ref q)), some (.val (.int deep)), some (.val (.bl up)), x4, none, some (.val (.ref r)), none, none, some (.val (.ref st3.length)), none, none, none] st4 = .ok ((ns.zip ws).map pairD) st4 := by
        rw [sLc_eq, r1_nat (n := ws.length) (by rw [sCons_eq, l4]; simp) (by omega), lcK_ok, lcR_fix, er]
        exact elc
      rw [show (Kd.mk (.table (ns.zip ws)) []).D = .tup [.str "table", .tup ((ns.zip ws).map pairD)] from by rw [kd_eq]; rfl]
      rw [qRet_eq, sTup_eq, sCons_eq, sC_eq, consK_ok, sCons_eq, s1_eq, sV_eq, sF_eq, esl]
      generalize (ns.zip ws).map pairD = Z
      simp [smallLine]
    · unfold Kd.ok Kd.oks
      refine ⟨⟨⟨rfl, by rw [List.length_zip]; omega⟩, goodEs_zip n1 n2 n3 (fun w hw => wd_good (w3 w hw) (by omega)) w1⟩, trivial⟩
    · rw [Kd.letters]
      show lenSum ((ns.zip ws).map (·.2)) + Kd.letterss [] + _ = _
      rw [zip_snd ns ws n1, Kd.letterss]
      omega
    · rcases List.mem_append.mp hz with h | h
      · exact hpg z h
      · exact n3 z h
    · exact (((F1.more (by simp)).trans (F2.more (by simp))).trans (F3.more (by simp))).trans (F4.more (by simp))
end KP
set_option Elab.async false
set_option linter.all false
set_option maxRecDepth 100000
set_option maxHeartbeats 1000000
set_option autoImplicit false
set_option exponentiation.threshold 5000
/-! RL: the plain law: _law_some_kind: a turned node, a list. -/
namespace KP
open PySem PySem.Spec PyProof.Rows L2 Ds KG
/-- pen[0] set -/
theorem WS.setN {st : Sto} {s q p mode c n m : Nat} {sg : Str} (ha : Apart3 s q p) (h : WS st s q p sg mode c n m) (n' : Nat) : WS (st.set q (some (.lst [.int n', .int m, .str sg, .int 3, .int mode, .ref p]))) s q p sg mode c n' m := by
  obtain ⟨g, hp, ps, h1, h2, h3⟩ := h
  refine ⟨g.fr (ms := [q]) (Fr.set (by simp)) (by simpa using fun z => ha.qs z.symm), set_at hp, ps, at_fr (ms := [q]) h1 (Fr.set (by simp)) (by simpa using ha.pq), h2, h3⟩
theorem WS.x0 {st : Sto} {s q p mode c n m : Nat} {sg : Str} (h : WS st s q p sg mode c n m) {ρ : En} (hρ : ρ[1]? = some (some (.val (.ref q)))) : sIx (sVar 1) (sC (.int 0)) ρ st = .ok (.int n) st := ixR (n := q) 0 (by simp [hρ]) h.2.1 rfl
theorem WS.x1 {st : Sto} {s q p mode c n m : Nat} {sg : Str} (h : WS st s q p sg mode c n m) {ρ : En} (hρ : ρ[1]? = some (some (.val (.ref q)))) : sIx (sVar 1) (sC (.int 1)) ρ st = .ok (.int m) st := ixR (n := q) 1 (by simp [hρ]) h.2.1 rfl
theorem WS.x5 {st : Sto} {s q p mode c n m : Nat} {sg : Str} (h : WS st s q p sg mode c n m) {ρ : En} (hρ : ρ[1]? = some (some (.val (.ref q)))) : sIx (sVar 1) (sC (.int 5)) ρ st = .ok (.ref p) st := ixR (n := q) 5 (by simp [hρ]) h.2.1 rfl
/-- pen[0] = pen[0] - 1 -/
theorem WS.dec {st : Sto} {s q p mode c n m : Nat} {sg : Str} (ha : Apart3 s q p) (h : WS st s q p sg mode c n m) (hn : 1 ≤ n) {ρ : En} (hρ : ρ[1]? = some (some (.val (.ref q)))) : ∃ st', qSetR (s2 subD (sIx (sVar 1) (sC (.int 0))) (sC (.int 1))) (sVar 1) (sC (.int 0)) ρ st = .ok (.nx ρ) st' ∧ WS st' s q p sg mode c (n - 1) m ∧ Fr [q] st st' := by
  refine ⟨_, setR_go (n := q) (j := 0) (y := .int ((n - 1 : Nat) : Int)) (by
    rw [s2_eq, h.x0 hρ, s2K_ok, sC_eq, s2K'_ok, subD_ii]
    congr 2
    omega) (by simp [hρ]) (by simp) h.2.1 (by simp), ?_, Fr.set (by simp)⟩
  exact h.setN ha (n - 1)
noncomputable def turnedB (FR : SemF) : SS := (qSeq (qSetR (s2 subD (sIx (sVar 1) (sC (.int 0))) (sC (.int 1))) (sVar 1) (sC (.int 0))) (qRet (sTup (sCons (sC (.str "turned")) (sCons (sCall FR [] (sCons (sVar 0) (sCons (sVar 1) (sCons (sVar 2) (sCons (vNot (sVar 3)) sNil))))) sNil)))))
theorem f_turned {FR : SemF} {N s q p mode c n m deep : Nat} {up : Bool} {sg : Str} {st : Sto} {x4 : Option Sl} (ha : Apart3 s q p) (hF : Makes FR N s q p sg mode) (w : WS st s q p sg mode c n m) (hn : 1 ≤ n) (hN : n - 1 < N) (hc : c + 3000 * n ≤ 90000) :
    ∃ (k : Kd) (st' : Sto) (n' m' : Nat), turnedB FR (Four s q deep up x4 none none none none none none none none) st = .ok (.rt (.val k.D)) st' ∧ k.ok ∧ k.size + n' = n + 1 ∧ k.letters + m' = m ∧ dep k ≤ deep ∧ WS st' s q p sg mode (c + 3000 * k.size - 10) n' m' ∧ Fr [s, q, p] st st' := by
  obtain ⟨st1, e1, w1, F1⟩ := w.dec ha hn (ρ := Four s q deep up x4 none none none none none none none none) rfl
  obtain ⟨k, st2, n2, m2, e2, k1, k2, k3, k4, w2, F2⟩ := hF st1 c (n - 1) m deep (!up) w1 hN (by omega)
  refine ⟨.mk .turned [k], st2, n2, m2, ?_, ?_, ?_, ?_, ?_, w2.mono ?_, (F1.more (by simp)).trans F2⟩
  · unfold turnedB
    rw [seq_go e1]
    unfold Four
    simp [e2, smallLine, kd_eq, Lab.D, kds_cons, Kd.Ds]
  · unfold Kd.ok Kd.oks Kd.oks
    exact ⟨⟨rfl, trivial⟩, k1, trivial⟩
  · rw [Kd.size, Kd.sizes, Kd.sizes]; omega
  · rw [Kd.letters, Kd.letterss, Kd.letterss]
    show 0 + _ + _ = _
    omega
  · rw [dep, deps, deps]
    show 0 + _ ≤ _
    omega
  · rw [Kd.size, Kd.sizes, Kd.sizes]; omega
noncomputable def listB (FR : SemF) : SS := (qSeq (qSetR (s2 subD (sIx (sVar 1) (sC (.int 0))) (sC (.int 1))) (sVar 1) (sC (.int 0))) (qSeq (qSet 10 (sCall F__law_pick [] (sCons (sVar 0) (sCons (sF (sLst (sCons (sC (.str "first")) (sCons (sC (.str "last")) sNil)))) sNil)))) (qSeq (qSet 6 (sCall F__law_branch_words [] (sCons (sVar 0) (sCons (sVar 1) (sCons (sC (.int 2)) (sCons (sB (c2 eqD (sB (c2 eqD (sVar 10) (sV (sC (.str "first"))))) (sV (sVar 3)))) sNil)))))) (qRet (sTup (sCons (sC (.str "list")) (sCons (sIx (sVar 6) (sC (.int 1))) (sCons (sIx (sVar 6) (sC (.int 0))) (sCons (sVar 10) (sCons (sCall FR [] (sCons (sVar 0) (sCons (sVar 1) (sCons (s2 subD (sVar 2) (sC (.int 1))) (sCons (sVar 3) sNil))))) sNil))))))))))
theorem f_listK {FR : SemF} {N s q p mode c n m deep : Nat} {up : Bool} {sg : Str} {st : Sto} {x4 : Option Sl} (ha : Apart3 s q p) (hsg : Sg sg) (hF : Makes FR N s q p sg mode) (w : WS st s q p sg mode c n m) (hn : 1 ≤ n) (hN : n - 1 < N) (hd : 1 ≤ deep) (hm : 6 ≤ m) (hc : c + 1100 + 3000 * n ≤ 90000) :
    ∃ (k : Kd) (st' : Sto) (n' m' : Nat), listB FR (Four s q deep up x4 none none none none none none none none) st = .ok (.rt (.val k.D)) st' ∧ k.ok ∧ k.size + n' = n + 1 ∧ k.letters + m' = m ∧ dep k ≤ deep ∧ WS st' s q p sg mode (c + 3000 * k.size - 10) n' m' ∧ Fr [s, q, p] st st' := by
  obtain ⟨st1, e1, w1, F1⟩ := w.dec ha hn (ρ := Four s q deep up x4 none none none none none none none none) rfl
  obtain ⟨g1, hp1, ps, hps1, hpg, hpl⟩ := id w1
  obtain ⟨y, st2, e2, hy, g2, F2⟩ := pick_lst (xs := [.str "first", .str "last"]) g1 (by omega) (by simp) (by simp)
  obtain ⟨z, rfl, hz⟩ : ∃ z : Str, y = .str z ∧ (z = "first" ∨ z = "last") := by
    simp only [List.mem_cons, List.not_mem_nil, or_false] at hy
    rcases hy with rfl | rfl
    · exact ⟨_, rfl, .inl rfl⟩
    · exact ⟨_, rfl, .inr rfl⟩
  have hp2 := hp1.fr F2 (by simpa using ha.qs)
  have hps2 : WdsAt st2 p ps := at_fr hps1 F2 (by simpa using ha.ps)
  obtain ⟨r, ws, st3, e3, hr3, w1', w2', w3, w4, w5, hp3, g3, F3, hr⟩ := f_bwords (up := (decide (z = "first") == up)) (m := 2) g2 (by omega) hp2 hsg ha.qs (by omega) (by omega)
  have hws := w5 rfl hm
  have hps3 : WdsAt st3 p ps := at_fr hps2 F3 (by simp [ha.ps, ha.pq])
  have hsl := g2.lt
  have hql := (List.getElem?_eq_some_iff.mp hp2).1
  have hpl2 := (List.getElem?_eq_some_iff.mp hps2).1
  have w3' : WS st3 s q p sg mode (c + 1100) (n - 1) (m - lenSum ws) := ⟨g3.mono (by omega), hp3, ps, hps3, hpg, by omega⟩
  obtain ⟨k, st4, n4, m4, e4, k1, k2, k3, k4, w4', F4⟩ := hF st3 (c + 1100) (n - 1) (m - lenSum ws) (deep - 1) up w3' hN (by omega)
  obtain ⟨a, b, rfl⟩ : ∃ a b, ws = [a, b] := by
    match ws, hws with
    | [a, b], _ => exact ⟨a, b, rfl⟩
  have hsum : lenSum [a, b] = a.length + b.length := by simp [lenSum]
  refine ⟨.mk (.list b a z) [k], st4, n4, m4, ?_, ?_, ?_, ?_, ?_, w4'.mono ?_, (((F1.more (by simp)).trans (F2.more (by simp))).trans (F3.more (by simp))).trans F4⟩
  · unfold listB
    rw [seq_go e1]
    unfold Four
    rw [seq_go (ρ1 := [some (.val (.ref s)), some (.val (.ref q)), some (.val (.int deep)), some (.val (.bl up)), x4, none, none, none, none, none, some (.val (.str z)), none, none]) (st1 := st2) (by simp [smallLine, e2])]
    have e3' : F__law_branch_words [.ref s, .ref q, .int 2, .bl (decide (z = "first") == up)] st2 = .ok (.val (.ref r)) st3 := e3
    rw [seq_go (ρ1 := [some (.val (.ref s)), some (.val (.ref q)), some (.val (.int deep)), some (.val (.bl up)), x4, none, some (.val (.ref r)), none, none, none, some (.val (.str z)), none, none]) (st1 := st3) (by simp [eqD_str, eqD_bl, e3'])]
    have i1 : sIx (sVar 6) (sC (.int 1)) [some (.val (.ref s)), some (.val (.ref q)), some (.val (.int deep)), some (.val (.bl up)), x4, none, some (.val (.ref r)), none, none, none, some (.val (.str z)), none, none] st3 = .ok (.str b) st3 := ixR (n := r) 1 (by simp) hr3 rfl
    have i0 : sIx (sVar 6) (sC (.int 0)) [some (.val (.ref s)), some (.val (.ref q)), some (.val (.int deep)), some (.val (.bl up)), x4, none, some (.val (.ref r)), none, none, none, some (.val (.str z)), none, none] st3 = .ok (.str a) st3 := ixR (n := r) 0 (by simp) hr3 rfl
    have e4' : FR [.ref s, .ref q, .int ((deep : Int) - 1), .bl up] st3 = .ok (.val k.D) st4 := by
      rw [show (deep : Int) - 1 = ((deep - 1 : Nat) : Int) from by omega]
      exact e4
    rw [qRet_eq, sTup_eq, sCons_eq, sC_eq, consK_ok, sCons_eq, i1, consK_ok, sCons_eq, i0, consK_ok]
    simp [e4', smallLine, kd_eq, Lab.D, kds_cons, Kd.Ds]
  · unfold Kd.ok Kd.oks Kd.oks
    exact ⟨⟨rfl, wd_good (w3 b (by simp)) (by omega), wd_good (w3 a (by simp)) (by omega), hz⟩, k1, trivial⟩
  · rw [Kd.size, Kd.sizes, Kd.sizes]; omega
  · rw [Kd.letters, Kd.letterss, Kd.letterss]
    show lenSum [b, a] + _ + _ = _
    have : lenSum [b, a] = b.length + a.length := by simp [lenSum]
    omega
  · rw [dep, deps, deps]
    show 1 + _ ≤ _
    omega
  · rw [Kd.size, Kd.sizes, Kd.sizes]; omega
end KP
set_option Elab.async false
set_option linter.all false
set_option maxRecDepth 100000
set_option maxHeartbeats 1000000
set_option autoImplicit false
set_option exponentiation.threshold 5000
/-! RM: the plain law: _law_some_kind: a row, a choice. -/
namespace KP
open PySem PySem.Spec PyProof.Rows L2 Ds KG
def sizes7 : List Nat := [1, 2, 2, 3, 3, 4, 6]
theorem sizes7_ok : ∀ n ∈ sizes7, 1 ≤ n ∧ n ≤ 6 := by decide
/-- the slots behind the parts -/
def EnvP (s q deep : Nat) (up : Bool) (so : Str) (j : Nat) (w6 : D) (x7 x8 x11 x12 : Option Sl) : En := [some (.val (.ref s)), some (.val (.ref q)), some (.val (.int deep)), some (.val (.bl up)), some (.val (.str so)), some (.val (.int j)), some (.val w6), x7, x8, none, none, x11, x12]
noncomputable def muchB : SE := (s2 minD (sIx (sVar 1) (sC (.int 0))) (sCall F__law_pick [] (sCons (sVar 0) (sCons (sF (sLst (sCons (sC (.int 1)) (sCons (sC (.int 2)) (sCons (sC (.int 2)) (sCons (sC (.int 3)) (sCons (sC (.int 3)) (sCons (sC (.int 4)) (sCons (sC (.int 6)) sNil))))))))) sNil))))
theorem f_much {s q p mode c n m deep : Nat} {up : Bool} {sg : Str} {st : Sto} {x4 : Option Sl} (ha : Apart3 s q p) (w : WS st s q p sg mode c n m) (hc : c ≤ 90000) (hn : 1 ≤ n) :
    ∃ (j : Nat) (st' : Sto), muchB (Four s q deep up x4 none none none none none none none none) st = .ok (.int j) st' ∧ 1 ≤ j ∧ j ≤ 6 ∧ j ≤ n ∧ WS st' s q p sg mode (c + 6) n m ∧ Fr [s] st st' := by
  obtain ⟨g, hp, ps, hps, hpg, hpl⟩ := id w
  obtain ⟨y, st1, e1, hy, g1, F1⟩ := pick_lst (xs := sizes7.map fun (n : Nat) => D.int n) g (by omega) (by simp [sizes7]) (by simp [sizes7])
  obtain ⟨j, hj, rfl⟩ := List.mem_map.mp hy
  obtain ⟨j1, j2⟩ := sizes7_ok j hj
  have e1' : F__law_pick [.ref s, .lst [.int 1, .int 2, .int 2, .int 3, .int 3, .int 4, .int 6]] st = .ok (.val (.int j)) st1 := e1
  refine ⟨min n j, st1, ?_, by omega, by omega, by omega, ⟨g1, hp.fr F1 (by simpa using ha.qs), ps, at_fr hps F1 (by simpa using ha.ps), hpg, by omega⟩, F1⟩
  have x0 := w.x0 (ρ := Four s q deep up x4 none none none none none none none none) rfl
  unfold muchB
  rw [s2_eq, x0, s2K_ok]
  have em : minD (.int n) (.int j) st1 = .ok (.int (min n j : Nat)) st1 := by
    show Out.ok (D.int (if (j : Int) < n then (j : Int) else n)) st1 = _
    congr 2
    split <;> omega
  unfold Four
  simp [smallLine, e1', em]
/-- one part -/
theorem part_step {FR : SemF} {N s q p mode deep j : Nat} {up : Bool} {sg so : Str} {w6 : D} {st0 : Sto} (hF : Makes FR N s q p sg mode) (st : Sto) (c n m : Nat) (w : WS st s q p sg mode c n m) (hN : n < N) (hc : c + 3000 * (n + 1) ≤ 90000) (d : D) :
    ∃ (k : Kd) (st' : Sto) (n' m' : Nat), stepC (.nm 11) bYes (sCall FR [] (sCons (sVar 0) (sCons (sVar 1) (sCons (sVar 2) (sCons (sVar 3) sNil))))) (EnvP s q deep up so j w6 none none none none) d st = .ok (some k.D) st' ∧ k.ok ∧ k.size + n' = n + 1 ∧ k.letters + m' = m ∧ dep k ≤ deep ∧ WS st' s q p sg mode (c + 3000 * k.size) n' m' ∧ Fr [s, q, p] st st' := by
  obtain ⟨k, st', n', m', e, h⟩ := hF st c n m deep up w hN hc
  refine ⟨k, st', n', m', ?_, h⟩
  unfold EnvP
  simp [stepC_eq, e]
noncomputable def partsB (FR : SemF) : SL := (sLc (sIt (sVar 6)) (.nm 11) bYes (sCall FR [] (sCons (sVar 0) (sCons (sVar 1) (sCons (sVar 2) (sCons (sVar 3) sNil))))) [11])
theorem f_parts {FR : SemF} {N s q p mode c n m deep j : Nat} {up : Bool} {sg so : Str} {w6 : D} {st : Sto} {it : IT} {ds : List D} (hF : Makes FR N s q p sg mode) (w : WS st s q p sg mode c n m) (hN : n < N) (hds : ds.length ≤ 6) (hc : c + 3000 * (n + ds.length) ≤ 90000)
    (hit : itD w6 st = .ok it st) (hnow : ∀ st', Fr [s, q, p] st st' → it.now st' = some ds) :
    ∃ (ks : List Kd) (st' : Sto) (n' m' : Nat), partsB FR (EnvP s q deep up so j w6 none none none none) st = .ok (ks.map Kd.D) st' ∧ ks.length = ds.length ∧ Kd.oks ks ∧ Kd.sizes ks + n' = n + ds.length ∧ Kd.letterss ks + m' = m ∧ deps ks ≤ deep ∧ WS st' s q p sg mode (c + 3000 * Kd.sizes ks) n' m' ∧ Fr [s, q, p] st st' := by
  obtain ⟨ks, st', n', m', e, h⟩ := kids_go (N := N) (step := stepC (.nm 11) bYes (sCall FR [] (sCons (sVar 0) (sCons (sVar 1) (sCons (sVar 2) (sCons (sVar 3) sNil))))) (EnvP s q deep up so j w6 none none none none)) (st0 := st) (deep := deep)
    (fun st2 c2 n2 m2 w2 h1 h2 _ d _ => part_step (st0 := st) hF st2 c2 n2 m2 w2 h1 h2 d) hnow (by omega) ds 0 [] st c n m (Fr.refl _ _) rfl rfl w hN hc
  refine ⟨ks, st', n', m', ?_, h⟩
  rw [List.map_nil, List.nil_append] at e
  unfold partsB
  rw [sLc_eq, sIt_eq, sVar_eq]
  have : (EnvP s q deep up so j w6 none none none none)[6]? = some (some (.val w6)) := rfl
  rw [this]
  simp only [Out.bind_ok, hit, lcK_ok]
  unfold lcR
  rw [hnow st (Fr.refl _ _)]
  exact e
noncomputable def nodesB (FR : SemF) : SS := (qSeq (qSet 5 muchB) (qSeq (qSet 6 (s2 mulD (sF (sLst (sCons (sC (.str "")) sNil))) (sVar 5))) (qSeq (qIf (c2 eqD (sVar 4) (sV (sC (.str "c")))) (qSet 6 (sCall F__law_branch_words [] (sCons (sVar 0) (sCons (sVar 1) (sCons (sVar 5) (sCons (sVar 3) sNil)))))) qNil) (qSeq (qSetR (s2 subD (sIx (sVar 1) (sC (.int 0))) (s1 lenD (sV (sVar 6)))) (sVar 1) (sC (.int 0))) (qSeq (qSet 7 (sF (partsB FR))) (qSeq (qIf (c2 eqD (sVar 4) (sV (sC (.str "r")))) (qRet (sTup (sCons (sC (.str "row")) (sCons (s1 tupOfD (sV (sVar 7))) sNil)))) qNil) (qSeq (qSet 8 (sCall F__law_pool_names [] (sCons (sVar 0) (sCons (s1 lenD (sV (sVar 6))) (sCons (sIx (sVar 1) (sC (.int 5))) sNil))))) (qRet (sTup (sCons (sC (.str "choice")) (sCons (s1 tupOfD (sV (sF (sLc (sItA r1D (sCons (s1 lenD (sV (sVar 6))) sNil)) (.nm 12) bYes (sTup (sCons (sIx (sVar 8) (sVar 12)) (sCons (sIx (sVar 6) (sVar 12)) (sCons (sIx (sVar 7) (sVar 12)) sNil)))) [12])))) sNil)))))))))))
theorem mulD_li0 {xs : List D} {k : Int} {st : Sto} (h : -(2 ^ 63) ≤ k ∧ k < 2 ^ 63 ∧ xs.length * k.toNat ≤ sizeLine) : mulD (.lst xs) (.int k) st = .ok (.lst (List.replicate k.toNat xs).flatten) st := if_pos h
theorem mulD_li {xs : List D} {k : Nat} {st : Sto} (h : xs.length * k ≤ 1000) (hk : k ≤ 1000) : mulD (.lst xs) (.int k) st = .ok (.lst (List.replicate k xs).flatten) st := by
  have := mulD_li0 (xs := xs) (k := (k : Int)) (st := st) ⟨by omega, by omega, by rw [Int.toNat_natCast]; exact smallLine h⟩
  rwa [Int.toNat_natCast] at this
theorem rep_one (k : Nat) (x : D) : (List.replicate k [x]).flatten = List.replicate k x := by
  induction k with
  | zero => rfl
  | succ k ih => rw [List.replicate_succ, List.flatten_cons, ih, List.replicate_succ]; rfl
theorem f_rowK {FR : SemF} {N s q p mode c n m deep : Nat} {up : Bool} {sg : Str} {st : Sto} (ha : Apart3 s q p) (hF : Makes FR N s q p sg mode) (w : WS st s q p sg mode c n m) (hn : 1 ≤ n) (hN : n - 1 < N) (hc : c + 1100 + 3000 * n ≤ 90000) :
    ∃ (k : Kd) (st' : Sto) (n' m' : Nat), nodesB FR (Four s q deep up (some (.val (.str "r"))) none none none none none none none none) st = .ok (.rt (.val k.D)) st' ∧ k.ok ∧ k.size + n' = n + 1 ∧ k.letters + m' = m ∧ dep k ≤ deep ∧ WS st' s q p sg mode (c + 3000 * k.size - 10) n' m' ∧ Fr [s, q, p] st st' := by
  obtain ⟨j, st1, e1, j1, j6, jn, w1, F1⟩ := f_much (deep := deep) (up := up) (x4 := some (.val (.str "r"))) ha w (by omega) hn
  have w2 := w1.setN ha (n - j)
  have F2 : Fr [q] st1 (st1.set q (some (.lst [.int (n - j : Nat), .int m, .str sg, .int 3, .int mode, .ref p]))) := Fr.set (by simp)
  generalize hst2 : st1.set q (some (.lst [.int (n - j : Nat), .int m, .str sg, .int 3, .int mode, .ref p])) = st2 at w2 F2
  obtain ⟨ks, st3, n3, m3, e3, k1, k2, k3, k4, k5, w3, F3⟩ := f_parts (deep := deep) (up := up) (so := "r") (j := j) (w6 := .lst (List.replicate j (.str (Str.ofString "")))) (it := .fix (List.replicate j (.str (Str.ofString "")))) (ds := List.replicate j (.str (Str.ofString ""))) hF w2 (by omega) (by rw [List.length_replicate]; exact j6) (by rw [List.length_replicate]; omega) rfl (fun _ _ => rfl)
  rw [List.length_replicate] at k1 k3
  refine ⟨.mk .row ks, st3, n3, m3, ?_, ?_, by rw [Kd.size]; omega, ?_, ?_, w3.mono (by rw [Kd.size]; omega), ((F1.more (by simp)).trans (F2.more (by simp))).trans F3⟩
  · unfold nodesB
    have x0 := w1.x0 (ρ := EnvP s q deep up "r" j (.lst (List.replicate j (.str (Str.ofString "")))) none none none none) rfl
    rw [seq_go (ρ1 := [some (.val (.ref s)), some (.val (.ref q)), some (.val (.int deep)), some (.val (.bl up)), some (.val (.str "r")), some (.val (.int j)), none, none, none, none, none, none, none]) (st1 := st1) (by rw [qSet_eq, e1]; simp [Four])]
    rw [seq_go (ρ1 := EnvP s q deep up "r" j (.lst (List.replicate j (.str (Str.ofString "")))) none none none none) (st1 := st1) (by
      have em := mulD_li (xs := [.str (Str.ofString "")]) (k := j) (st := st1) (by simp; omega) (by omega)
      rw [rep_one] at em
      simp [smallLine, em, EnvP])]
    rw [seq_go (ρ1 := EnvP s q deep up "r" j (.lst (List.replicate j (.str (Str.ofString "")))) none none none none) (st1 := st1) (by
      rw [if_f (st1 := st1) (by simp [EnvP, eqD_str, ofString_inj])]
      simp)]
    rw [seq_go (ρ1 := EnvP s q deep up "r" j (.lst (List.replicate j (.str (Str.ofString "")))) none none none none) (st1 := st2) (by
      rw [← hst2]
      exact setR_go (n := q) (j := 0) (y := .int ((n - j : Nat) : Int)) (xs := [.int n, .int m, .str sg, .int 3, .int mode, .ref p]) (by
        rw [s2_eq, x0, s2K_ok]
        simp [EnvP]
        omega) (by simp [EnvP]) (by simp) w1.2.1 (by simp))]
    rw [seq_go (ρ1 := EnvP s q deep up "r" j (.lst (List.replicate j (.str (Str.ofString "")))) (some (.val (.lst (ks.map Kd.D)))) none none none) (st1 := st3) (by rw [qSet_eq, sF_eq, e3]; simp [EnvP])]
    refine seq_rt ?_
    rw [if_t (st1 := st3) (by simp [EnvP, eqD_str])]
    simp [EnvP, smallLine, kd_eq, Lab.D, kds_map]
  · unfold Kd.ok
    exact ⟨⟨by show ks.length ≤ 6; omega, trivial⟩, k2⟩
  · rw [Kd.letters]
    show 0 + _ + _ = _
    omega
  · rw [dep]
    show 0 + _ ≤ _
    omega
theorem itD_ref {r : Nat} {xs : List D} {st : Sto} (h : st[r]? = some (some (.lst xs))) : itD (.ref r) st = .ok (.live r) st := by
  unfold itD
  simp only [h]
theorem f_choiceK {FR : SemF} {N s q p mode c n m deep : Nat} {up : Bool} {sg : Str} {st : Sto} (ha : Apart3 s q p) (hsg : Sg sg) (hF : Makes FR N s q p sg mode) (w : WS st s q p sg mode c n m) (hn : 1 ≤ n) (hN : n - 1 < N) (hc : c + 1100 + 3000 * n + 900 ≤ 90000) :
    ∃ (k : Kd) (st' : Sto) (n' m' : Nat), nodesB FR (Four s q deep up (some (.val (.str "c"))) none none none none none none none none) st = .ok (.rt (.val k.D)) st' ∧ k.ok ∧ k.size + n' = n + 1 ∧ k.letters + m' = m ∧ dep k ≤ deep ∧ WS st' s q p sg mode (c + 3000 * k.size - 10) n' m' ∧ Fr [s, q, p] st st' := by
  obtain ⟨j, st1, e1, j1, j6, jn, w1, F1⟩ := f_much (deep := deep) (up := up) (x4 := some (.val (.str "c"))) ha w (by omega) hn
  obtain ⟨g1, hp1, ps, hps1, hpg, hpl⟩ := id w1
  obtain ⟨r, ws, st2, e2, hr2, v1, v2, v3, v4, v5, hp2, g2, F2, hr⟩ := f_bwords (up := up) g1 (by omega) hp1 hsg ha.qs j1 (by omega)
  have hps2 : WdsAt st2 p ps := at_fr hps1 F2 (by simp [ha.ps, ha.pq])
  have hsl := g1.lt
  have hql := (List.getElem?_eq_some_iff.mp hp1).1
  have hpl2 := (List.getElem?_eq_some_iff.mp hps1).1
  have w2 : WS st2 s q p sg mode (c + 1010) n (m - lenSum ws) := ⟨g2.mono (by omega), hp2, ps, hps2, hpg, by omega⟩
  have w3 := w2.setN ha (n - ws.length)
  have F3 : Fr [q] st2 (st2.set q (some (.lst [.int (n - ws.length : Nat), .int (m - lenSum ws : Nat), .str sg, .int 3, .int mode, .ref p]))) := Fr.set (by simp)
  generalize hst3 : st2.set q (some (.lst [.int (n - ws.length : Nat), .int (m - lenSum ws : Nat), .str sg, .int 3, .int mode, .ref p])) = st3 at w3 F3
  have hr3 : WdsAt st3 r ws := at_fr hr2 F3 (by simp; omega)
  obtain ⟨ks, st4, n4, m4, e4, k1, k2, k3, k4, k5, w4, F4⟩ := f_parts (deep := deep) (up := up) (so := "c") (j := j) (w6 := .ref r) (it := .live r) (ds := ws.map .str) hF w3 (by omega) (by rw [List.length_map]; omega) (by rw [List.length_map]; omega) (itD_ref hr3) (fun st' F' => by
    have : WdsAt st' r ws := at_fr hr3 F' (by simp; omega)
    unfold IT.now
    simp only [show st'[r]? = _ from this])
  rw [List.length_map] at k1 k3
  obtain ⟨g4, hp4, ps4, hps4, hpg4, hpl4⟩ := id w4
  have hr4 : WdsAt st4 r ws := at_fr hr3 F4 (by simp; omega)
  obtain ⟨ns, st5, e5, n1, n2, n3, n4', n5, g5, F5⟩ := f_pool (m := ws.length) g4 (by omega) hps4 ha.ps (by omega) (by omega) hpg4
  have hr5 : WdsAt st5 r ws := at_fr hr4 F5 (by simp; omega)
  have hks : ks.length = ws.length := k1
  refine ⟨.mk (.choice (ns.zip ws)) ks, st5, n4, m4, ?_, ?_, by rw [Kd.size]; omega, ?_, ?_, ⟨g5.mono (by rw [Kd.size]; omega), hp4.fr F5 (by simp [ha.qs, ha.pq.symm]), ps4 ++ ns, n5, fun z hz => ?_, by rw [List.length_append, Kd.size]; omega⟩, (((F1.more (by simp)).trans (F2.more (by simp))).trans (F3.more (by simp))).trans (F4.trans (F5.more (by simp)))⟩
  · unfold nodesB
    rw [seq_go (ρ1 := [some (.val (.ref s)), some (.val (.ref q)), some (.val (.int deep)), some (.val (.bl up)), some (.val (.str "c")), some (.val (.int j)), none, none, none, none, none, none, none]) (st1 := st1) (by rw [qSet_eq, e1]; simp [Four])]
    rw [seq_go (ρ1 := EnvP s q deep up "c" j (.lst (List.replicate j (.str (Str.ofString "")))) none none none none) (st1 := st1) (by
      have em := mulD_li (xs := [.str (Str.ofString "")]) (k := j) (st := st1) (by simp; omega) (by omega)
      rw [rep_one] at em
      simp [smallLine, em, EnvP])]
    rw [seq_go (ρ1 := EnvP s q deep up "c" j (.ref r) none none none none) (st1 := st2) (by
      rw [if_t (st1 := st1) (by simp [EnvP, eqD_str])]
      simp [EnvP, e2])]
    have x0 := w2.x0 (ρ := EnvP s q deep up "c" j (.ref r) none none none none) rfl
    have l2 := lenR (i := 6) (ρ := EnvP s q deep up "c" j (.ref r) none none none none) rfl hr2
    rw [seq_go (ρ1 := EnvP s q deep up "c" j (.ref r) none none none none) (st1 := st3) (by
      rw [← hst3]
      exact setR_go (n := q) (j := 0) (y := .int ((n - ws.length : Nat) : Int)) (xs := [.int n, .int (m - lenSum ws : Nat), .str sg, .int 3, .int mode, .ref p]) (by
        rw [s2_eq, x0, s2K_ok, l2, s2K'_ok, subD_ii, show (n : Int) - (ws.length : Int) = ((n - ws.length : Nat) : Int) from by omega]) (by simp [EnvP]) (by simp) w2.2.1 (by simp))]
    rw [seq_go (ρ1 := EnvP s q deep up "c" j (.ref r) (some (.val (.lst (ks.map Kd.D)))) none none none) (st1 := st4) (by rw [qSet_eq, sF_eq, e4]; simp [EnvP])]
    rw [seq_go (ρ1 := EnvP s q deep up "c" j (.ref r) (some (.val (.lst (ks.map Kd.D)))) none none none) (st1 := st4) (by
      rw [if_f (st1 := st4) (by simp [EnvP, eqD_str, ofString_inj])]
      simp)]
    have x5 := w4.x5 (ρ := EnvP s q deep up "c" j (.ref r) (some (.val (.lst (ks.map Kd.D)))) none none none) rfl
    have l4 := lenR (i := 6) (ρ := EnvP s q deep up "c" j (.ref r) (some (.val (.lst (ks.map Kd.D)))) none none none) rfl hr4
    rw [seq_go (ρ1 := EnvP s q deep up "c" j (.ref r) (some (.val (.lst (ks.map Kd.D)))) (some (.val (.ref st4.length))) none none) (st1 := st5) (by
      rw [qSet_eq, sCall_eq, sCons_eq, sVar_eq]
      have : (EnvP s q deep up "c" j (.ref r) (some (.val (.lst (ks.map Kd.D)))) none none none)[0]? = some (some (.val (.ref s))) := rfl
      rw [this]
      simp only [consK_ok]
      rw [sCons_eq, l4, consK_ok, sCons_eq, x5, consK_ok, sNil_eq]
      simp [e5, EnvP])]
    have hzl : (ns.zip ws).length = ws.length := by rw [List.length_zip]; omega
    have hZl : (List.zipWith tripD (ns.zip ws) (ks.map Kd.D)).length = ws.length := by rw [List.length_zipWith, List.length_map]; omega
    have elc : lcL (stepC (.nm 12) bYes (sTup (sCons (sIx (sVar 8) (sVar 12)) (sCons (sIx (sVar 6) (sVar 12)) (sCons (sIx (sVar 7) (sVar 12)) sNil)))) (EnvP s q deep up "c" j (.ref r) (some (.val (.lst (ks.map Kd.D)))) (some (.val (.ref st4.length))) none none)) ((List.range ws.length).map fun (i : Nat) => D.int i) [] st5 = .ok (List.zipWith tripD (ns.zip ws) (ks.map Kd.D)) st5 := by
      have hm : List.zipWith tripD (ns.zip ws) (ks.map Kd.D) = (List.range ws.length).map fun i => (List.zipWith tripD (ns.zip ws) (ks.map Kd.D)).getD i .non := by
        have h := range_getD D.non (List.zipWith tripD (ns.zip ws) (ks.map Kd.D))
        rw [hZl] at h
        exact h.symm
      rw [hm]
      refine lc_mp (List.range ws.length) (fun i hi => ?_) (by rw [List.length_range]; omega)
      have hi := List.mem_range.mp hi
      have a1 := List.getElem?_eq_getElem (l := ns) (i := i) (by omega)
      have a2 := List.getElem?_eq_getElem (l := ws) (i := i) hi
      have a4 : (ks.map Kd.D)[i]? = some (ks[i]).D := by rw [List.getElem?_map, List.getElem?_eq_getElem (by omega)]; rfl
      have a3 : (ns.zip ws)[i]? = some (ns[i], ws[i]) := by rw [List.getElem?_zip_eq_some]; exact ⟨a1, a2⟩
      have a5 : (List.zipWith tripD (ns.zip ws) (ks.map Kd.D))[i]? = some (tripD (ns[i], ws[i]) (ks[i]).D) := zip_get a3 a4
      have hb : (Tgt.nm 12).bind (.int (i : Nat)) (EnvP s q deep up "c" j (.ref r) (some (.val (.lst (ks.map Kd.D)))) (some (.val (.ref st4.length))) none none) = some (EnvP s q deep up "c" j (.ref r) (some (.val (.lst (ks.map Kd.D)))) (some (.val (.ref st4.length))) none (some (.val (.int (i : Nat))))) := by simp [EnvP]
      rw [stepC_eq, hb]
      have b1 := ixW (i := 8) (j := 12) (ρ := EnvP s q deep up "c" j (.ref r) (some (.val (.lst (ks.map Kd.D)))) (some (.val (.ref st4.length))) none (some (.val (.int (i : Nat))))) rfl rfl n4' a1
      have b2 := ixW (i := 6) (j := 12) (ρ := EnvP s q deep up "c" j (.ref r) (some (.val (.lst (ks.map Kd.D)))) (some (.val (.ref st4.length))) none (some (.val (.int (i : Nat))))) rfl rfl hr5 a2
      have b3 : sIx (sVar 7) (sVar 12) (EnvP s q deep up "c" j (.ref r) (some (.val (.lst (ks.map Kd.D)))) (some (.val (.ref st4.length))) none (some (.val (.int (i : Nat))))) st5 = .ok (ks[i]).D st5 := by simp [EnvP, idx_lst a4]
      show shield (turnC bYes _ _ st5) = _
      rw [turnC_eq, bYes_eq, tcK_t, sTup_eq, sCons_eq, b1, consK_ok, sCons_eq, b2, consK_ok, sCons_eq, b3, consK_ok, sNil_eq]
      rw [List.getD_eq_getElem?_getD, a5]
      simp [smallLine, tripD]
    have er : rng 0 1 ws.length = (List.range ws.length).map fun (i : Nat) => D.int i := by
      unfold rng
      refine List.map_congr_left fun i _ => ?_
      show D.int (0 + (i : Int) * 1) = D.int i
      rw [Int.zero_add, Int.mul_one]
    have l5 := lenR (i := 6) (ρ := EnvP s q deep up "c" j (.ref r) (some (.val (.lst (ks.map Kd.D)))) (some (.val (.ref st4.length))) none none) rfl hr5
    have hw : wipeE (EnvP s q deep up "c" j (.ref r) (some (.val (.lst (ks.map Kd.D)))) (some (.val (.ref st4.length))) none none) [12] = EnvP s q deep up "c" j (.ref r) (some (.val (.lst (ks.map Kd.D)))) (some (.val (.ref st4.length))) none none := rfl
    have esl : sLc (sItA r1D (sCons (s1 lenD (sV (sVar 6))) sNil)) (.nm 12) bYes (sTup (sCons (sIx (sVar 8) (sVar 12)) (sCons (sIx (sVar 6) (sVar 12)) (sCons (sIx (sVar 7) (sVar 12)) sNil)))) [12] (EnvP s q deep up "c" j (.ref r) (some (.val (.lst (ks.map Kd.D)))) (some (.val (.ref st4.length))) none none) st5 = .ok (List.zipWith tripD (ns.zip ws) (ks.map Kd.D)) st5 := by
      rw [sLc_eq, r1_nat (n := ws.length) (by rw [sCons_eq, l5]; simp) (by omega), lcK_ok, lcR_fix, er, hw]
      exact elc
    rw [show (Kd.mk (.choice (ns.zip ws)) ks).D = .tup [.str "choice", .tup (List.zipWith tripD (ns.zip ws) (ks.map Kd.D))] from by rw [kd_eq, kds_map]; rfl]
    rw [qRet_eq, sTup_eq, sCons_eq, sC_eq, consK_ok, sCons_eq, s1_eq, sV_eq, sF_eq, esl]
    generalize List.zipWith tripD (ns.zip ws) (ks.map Kd.D) = Z
    simp [smallLine]
  · unfold Kd.ok
    refine ⟨⟨⟨?_, by omega⟩, goodEs_zip n1 n2 n3 (fun w hw => wd_good (v3 w hw) (by omega)) v1⟩, k2⟩
    rw [List.length_zip]
    omega
  · rw [Kd.letters]
    show lenSum ((ns.zip ws).map (·.2)) + _ + _ = _
    rw [zip_snd ns ws n1]
    omega
  · rw [dep]
    show 0 + _ ≤ _
    omega
  · rcases List.mem_append.mp hz with h | h
    · exact hpg4 z h
    · exact n3 z h
end KP
set_option Elab.async false
set_option linter.all false
set_option maxRecDepth 100000
set_option maxHeartbeats 1000000
set_option autoImplicit false
set_option exponentiation.threshold 5000
/-! RN: the plain law: _law_some_kind, _law_any_kind. -/
namespace KP
open PySem PySem.Spec PyProof.Rows L2 Ds KG
abbrev sortsS : Str := "trrccllu"
theorem sorts_all : ∀ u ∈ sortsS.cps.toList, (⟨#[u]⟩ : Str) = "t" ∨ (⟨#[u]⟩ : Str) = "r" ∨ (⟨#[u]⟩ : Str) = "c" ∨ (⟨#[u]⟩ : Str) = "l" ∨ (⟨#[u]⟩ : Str) = "u" := by decide +kernel
def IsSort (so : Str) : Prop := so = "t" ∨ so = "r" ∨ so = "c" ∨ so = "l" ∨ so = "u"
theorem f_sort {s q p mode c n m deep : Nat} {up : Bool} {sg : Str} {st : Sto} (ha : Apart3 s q p) (w : WS st s q p sg mode c n m) (hc : c ≤ 90000) : ∃ (so : Str) (st' : Sto), sIf (c2 (ordD false true) (sIx (sVar 1) (sC (.int 0))) (sV (sC (.int 0)))) (sCall F__law_pick [] (sCons (sVar 0) (sCons (sC (.str "trrccllu")) sNil))) (sC (.str "t")) (Four s q deep up none none none none none none none none none) st = .ok (.str so) st' ∧
    IsSort so ∧ (so ≠ "t" → 1 ≤ n) ∧ WS st' s q p sg mode (c + 6) n m ∧ Fr [s] st st' := by
  have x0 := w.x0 (ρ := Four s q deep up none none none none none none none none none) rfl
  by_cases hn : 0 < n
  · obtain ⟨g, hp, ps, hps, hpg, hpl⟩ := id w
    obtain ⟨u, st1, e1, hu, g1, F1⟩ := pick_str (z := sortsS) g (by omega) (by decide +kernel) (by decide +kernel)
    refine ⟨⟨#[u]⟩, st1, ?_, sorts_all u hu, fun _ => hn, ⟨g1, hp.fr F1 (by simpa using ha.qs), ps, at_fr hps F1 (by simpa using ha.ps), hpg, by omega⟩, F1⟩
    have hn' : (0 : Int) < n := by omega
    rw [sIf_eq, c2_eq, x0]
    simp [hn, hn', Four, e1]
  · refine ⟨"t", st, ?_, .inl rfl, fun z => absurd rfl z, w.mono (by omega), Fr.refl _ _⟩
    have hn' : ¬ (0 : Int) < n := by omega
    rw [sIf_eq, c2_eq, x0]
    simp [hn, hn']
theorem f_some {s q p mode : Nat} {sg : Str} (ha : Apart3 s q p) (hsg : Sg sg) : ∀ N : Nat, Makes (F__law_some_kind_ N) N s q p sg mode
  | 0 => fun st c n m deep up w hn _ => absurd hn (Nat.not_lt_zero _)
  | N + 1 => fun st c n m deep up w hn hc => by
    have hF := f_some (mode := mode) ha hsg N
    suffices b : ∃ (k : Kd) (st' : Sto) (n' m' : Nat), B__law_some_kind (F__law_some_kind_ N) (Four s q deep up none none none none none none none none none) st = .ok (.rt (.val k.D)) st' ∧ k.ok ∧ k.size + n' = n + 1 ∧ k.letters + m' = m ∧ dep k ≤ deep ∧ WS st' s q p sg mode (c + 3000 * k.size) n' m' ∧ Fr [s, q, p] st st' by
      obtain ⟨k, st', n', m', e, h⟩ := b
      refine ⟨k, st', n', m', ?_, h⟩
      show defF 4 13 _ _ _ = _
      unfold Four at e
      simp [e]
    obtain ⟨so, st1, e1, hso, hsn, w1, F1⟩ := f_sort (deep := deep) (up := up) ha w (by omega)
    unfold B__law_some_kind
    rw [seq_go (ρ1 := Four s q deep up (some (.val (.str so))) none none none none none none none none) (st1 := st1) (by rw [qSet_eq, e1]; simp [Four])]
    -- a list only where it may be
    have x1 := w1.x1 (ρ := Four s q deep up (some (.val (.str so))) none none none none none none none none) rfl
    have step2 : ∃ so' : Str, qIf (bAnd (c2 eqD (sVar 4) (sV (sC (.str "l")))) (bOr (c2 (ordD false false) (sVar 2) (sV (sC (.int 1)))) (c2 (ordD false false) (sIx (sVar 1) (sC (.int 1))) (sV (sC (.int 6)))))) (qSet 4 (sC (.str "t"))) qNil (Four s q deep up (some (.val (.str so))) none none none none none none none none) st1 =
        .ok (.nx (Four s q deep up (some (.val (.str so'))) none none none none none none none none)) st1 ∧ IsSort so' ∧ (so' ≠ "t" → 1 ≤ n) ∧ (so' = "l" → 1 ≤ deep ∧ 6 ≤ m) := by
      by_cases hl : so = "l"
      · subst hl
        have c0 : c2 eqD (sVar 4) (sV (sC (.str "l"))) (Four s q deep up (some (.val (.str "l"))) none none none none none none none none) st1 = .ok true st1 := by simp [Four, eqD_str]
        by_cases hd : deep < 1
        · refine ⟨"t", ?_, .inl rfl, fun z => absurd rfl z, fun z => absurd z (by simp [ofString_inj])⟩
          have hd' : (deep : Int) < 1 := by omega
          have c1 : c2 (ordD false false) (sVar 2) (sV (sC (.int 1))) (Four s q deep up (some (.val (.str "l"))) none none none none none none none none) st1 = .ok true st1 := by simp [Four, hd']
          rw [if_t (st1 := st1) (by rw [bAnd_eq, c0, andK_t, bOr_eq, c1, orK_t])]
          simp [Four]
        · have hd' : ¬ (deep : Int) < 1 := by omega
          have c1 : c2 (ordD false false) (sVar 2) (sV (sC (.int 1))) (Four s q deep up (some (.val (.str "l"))) none none none none none none none none) st1 = .ok false st1 := by simp [Four, hd']
          by_cases hm : m < 6
          · refine ⟨"t", ?_, .inl rfl, fun z => absurd rfl z, fun z => absurd z (by simp [ofString_inj])⟩
            have hm' : (m : Int) < 6 := by omega
            rw [if_t (st1 := st1) (by rw [bAnd_eq, c0, andK_t, bOr_eq, c1, orK_f, c2_eq, x1]; simp [hm'])]
            simp [Four]
          · refine ⟨"l", ?_, .inr (.inr (.inr (.inl rfl))), hsn, fun _ => ⟨by omega, by omega⟩⟩
            have hm' : ¬ (m : Int) < 6 := by omega
            rw [if_f (st1 := st1) (by rw [bAnd_eq, c0, andK_t, bOr_eq, c1, orK_f, c2_eq, x1]; simp [hm'])]
            simp
      · refine ⟨so, ?_, hso, hsn, fun z => absurd z hl⟩
        rw [if_f (st1 := st1) (by simp [Four, eqD_str, hl])]
        simp
    obtain ⟨so', e2, hso', hsn', hsl'⟩ := step2
    rw [seq_go e2]
    have up2 : ∀ {X : Out Fl}, (∃ (k : Kd) (st' : Sto) (n' m' : Nat), X = .ok (.rt (.val k.D)) st' ∧ k.ok ∧ k.size + n' = n + 1 ∧ k.letters + m' = m ∧ dep k ≤ deep ∧ WS st' s q p sg mode (c + 6 + 3000 * k.size - 10) n' m' ∧ Fr [s, q, p] st1 st') →
        ∃ (k : Kd) (st' : Sto) (n' m' : Nat), X = .ok (.rt (.val k.D)) st' ∧ k.ok ∧ k.size + n' = n + 1 ∧ k.letters + m' = m ∧ dep k ≤ deep ∧ WS st' s q p sg mode (c + 3000 * k.size) n' m' ∧ Fr [s, q, p] st st' := fun ⟨k, st', n', m', e, k1, k2, k3, k4, w', F'⟩ =>
      ⟨k, st', n', m', e, k1, k2, k3, k4, w'.mono (by have := size_pos k; omega), (F1.more (by simp)).trans F'⟩
    have cd : ∀ (a b : Str) (st : Sto), c2 eqD (sVar 4) (sV (sC (.str b))) (Four s q deep up (some (.val (.str a))) none none none none none none none none) st = .ok (decide (a = b)) st := fun a b st => by simp [Four, eqD_str]
    refine up2 ?_
    by_cases ht : so' = "t"
    · subst ht
      obtain ⟨k, st', n', m', e, h⟩ := f_leaf (deep := deep) (up := up) (x4 := some (.val (.str "t"))) ha hsg w1 (by omega)
      refine ⟨k, st', n', m', seq_rt ?_, h⟩
      rw [if_t (st1 := st1) (by rw [cd]; simp)]
      unfold leafB at e
      exact e
    · have hn1 := hsn' ht
      rw [seq_go (ρ1 := Four s q deep up (some (.val (.str so'))) none none none none none none none none) (st1 := st1) (by
        rw [if_f (st1 := st1) (by rw [cd]; simp [ht])]
        simp)]
      by_cases hu : so' = "u"
      · subst hu
        obtain ⟨k, st', n', m', e, h⟩ := f_turned (deep := deep) (up := up) (x4 := some (.val (.str "u"))) ha hF w1 hn1 (by omega) (by omega)
        refine ⟨k, st', n', m', seq_rt ?_, h⟩
        rw [if_t (st1 := st1) (by rw [cd]; simp)]
        unfold turnedB at e
        exact e
      · rw [seq_go (ρ1 := Four s q deep up (some (.val (.str so'))) none none none none none none none none) (st1 := st1) (by
          rw [if_f (st1 := st1) (by rw [cd]; simp [hu])]
          simp)]
        by_cases hl : so' = "l"
        · subst hl
          obtain ⟨l1, l2⟩ := hsl' rfl
          obtain ⟨k, st', n', m', e, h⟩ := f_listK (deep := deep) (up := up) (x4 := some (.val (.str "l"))) ha hsg hF w1 hn1 (by omega) l1 l2 (by omega)
          refine ⟨k, st', n', m', seq_rt ?_, h⟩
          rw [if_t (st1 := st1) (by rw [cd]; simp)]
          unfold listB at e
          exact e
        · rw [seq_go (ρ1 := Four s q deep up (some (.val (.str so'))) none none none none none none none none) (st1 := st1) (by
            rw [if_f (st1 := st1) (by rw [cd]; simp [hl])]
            simp)]
          rcases hso' with h | h | h | h | h
          · exact absurd h ht
          · subst h
            obtain ⟨k, st', n', m', e, h⟩ := f_rowK (deep := deep) (up := up) ha hF w1 hn1 (by omega) (by omega)
            refine ⟨k, st', n', m', ?_, h⟩
            unfold nodesB muchB partsB at e
            exact e
          · subst h
            obtain ⟨k, st', n', m', e, h⟩ := f_choiceK (deep := deep) (up := up) ha hsg hF w1 hn1 (by omega) (by omega)
            refine ⟨k, st', n', m', ?_, h⟩
            unfold nodesB muchB partsB at e
            exact e
          · exact absurd h hl
          · exact absurd h hu
def sgs : List Str := ["ab", "ab", "abc", "abc", "bd", "abcd", "gh", "abcdefgh"]
theorem sgs_ok : ∀ z ∈ sgs, 2 ≤ z.length ∧ z.length ≤ 8 ∧ ∀ c ∈ z.cps.toList, c ∈ abcS.cps.toList := by decide +kernel
/-- a kind drawn -/
theorem f_any {s c size letters deep : Nat} {st : Sto} (g : GS st s c) (hz1 : 1 ≤ size) (hz : size ≤ 25) (hc : c + 18 + 3000 * size ≤ 90000) :
    ∃ (k : Kd) (st' : Sto), F__law_any_kind [.ref s, .int size, .int letters, .int deep] st = .ok (.val k.D) st' ∧ k.ok ∧ k.size ≤ size ∧ k.letters ≤ letters ∧ dep k ≤ deep ∧ GS st' s (c + 18 + 3000 * size) := by
  obtain ⟨y, st1, e1, hy, g1, F1⟩ := pick_lst (xs := sgs.map .str) g (by omega) (by simp [sgs]) (by simp [sgs])
  obtain ⟨sg, hsg, rfl⟩ := List.mem_map.mp hy
  obtain ⟨s1', s2', s3'⟩ := sgs_ok sg hsg
  have hS : Sg sg := ⟨s1', s2', s3'⟩
  have e1' : F__law_pick [.ref s, .lst [.str "ab", .str "ab", .str "abc", .str "abc", .str "bd", .str "abcd", .str "gh", .str "abcdefgh"]] st = .ok (.val (.str sg)) st1 := e1
  obtain ⟨t1, st2, e2, l2, g2, F2⟩ := f_take (m := size) g1 (by omega) (by omega)
  obtain ⟨t2, st3, e3, l3, g3, F3⟩ := f_takeI (m := 3) g2 (by omega) (by omega) (by omega)
  have hsl := g3.lt
  generalize hst4 : st3 ++ [some (MO.lst [])] = st4
  have hl4 : st4.length = st3.length + 1 := by rw [← hst4, List.length_append]; rfl
  generalize hst5 : st4 ++ [some (MO.lst [.int t1, .int letters, .str sg, .int 3, .int t2, .ref st3.length])] = st5
  have hp5 : PenAt st5 st4.length t1 letters sg t2 st3.length := by
    show st5[st4.length]? = _
    rw [← hst5]; simp
  have hps5 : WdsAt st5 st3.length [] := by
    show st5[st3.length]? = _
    rw [← hst5, List.getElem?_append_left (by omega), ← hst4]; simp
  have F45 : Fr [] st3 st5 := by
    rw [← hst5, ← hst4]
    exact Fr.push.trans Fr.push
  have w5 : WS st5 s st4.length st3.length sg t2 (c + 18) t1 letters := ⟨(g3.mono (by omega)).fr F45 (by simp), hp5, [], hps5, by simp, by simp⟩
  obtain ⟨k, st6, n', m', e6, k1, k2, k3, k4, w6, F6⟩ := f_some (mode := t2) (s := s) (q := st4.length) (p := st3.length) ⟨by omega, by omega, by omega⟩ hS 30 st5 (c + 18) t1 letters deep true w5 (by omega) (by omega)
  refine ⟨k, st6, ?_, k1, by omega, by omega, k4, w6.1.mono (by omega)⟩
  have b : B__law_any_kind [some (.val (.ref s)), some (.val (.int size)), some (.val (.int letters)), some (.val (.int deep)), none] st = .ok (.rt (.val k.D)) st6 := by
    unfold B__law_any_kind
    rw [seq_go (ρ1 := [some (.val (.ref s)), some (.val (.int size)), some (.val (.int letters)), some (.val (.int deep)), some (.val (.str sg))]) (st1 := st1) (by simp [smallLine, e1'])]
    simp [smallLine, e2, e3, hst4, hst5, e6]
  unfold F__law_any_kind
  simp [b]
end KP
set_option Elab.async false
set_option linter.all false
set_option maxRecDepth 100000
set_option maxHeartbeats 1000000
set_option autoImplicit false
set_option exponentiation.threshold 5000
/-! RO: the plain law of k53: faulty parts. -/
namespace KP
open PySem PySem.Spec PyProof.Rows L2 Ds KG
theorem f_within_no {d : D} {a b : Int} {st : Sto} (h : isiR "tuple" d st = .ok (.bl false) st) : F_tuple_within [d, .int a, .int b] st = .ok (.val (.bl false)) st := by
  unfold F_tuple_within B_tuple_within
  simp [h]
theorem bad_table : Bad (.tup [.str "table", .tup []]) := fun st => by
  have e : F_good_entries [.tup [], .int 10, .int 2] st = .ok (.val (.bl false)) st := by
    unfold F_good_entries B_good_entries
    simp [f_within]
  unfold F_good_node B_good_node
  simp [f_within, eqD_str, ofString_inj, neD_int, e]
theorem bad_row (x : D) : Bad (.tup [.str "row", .lst [x]]) := fun st => by
  have e : F_tuple_within [.lst [x], .int 0, .int 6] st = .ok (.val (.bl false)) st := f_within_no (by simp)
  unfold F_good_node B_good_node
  simp [f_within, eqD_str, ofString_inj, neD_int, e]
theorem bad_turned (x : D) : Bad (.tup [.str "turned", x, x]) := fun st => by
  unfold F_good_node B_good_node
  simp [f_within, eqD_str, ofString_inj, neD_int]
theorem bad_non : Bad .non := fun st => by
  have e : F_tuple_within [.non, .int 2, .int 5] st = .ok (.val (.bl false)) st := f_within_no (by simp)
  unfold F_good_node B_good_node
  simp [e]
theorem good_a : GoodWord "a" := ⟨by decide +kernel, by decide +kernel⟩
theorem good_b : GoodWord "b" := ⟨by decide +kernel, by decide +kernel⟩
theorem bad_list (x : D) : Bad (.tup [.str "list", .str "a", .str "b", .str "up", x]) := fun st => by
  unfold F_good_node B_good_node
  simp [f_within, eqD_str, ofString_inj, neD_int, f_word' good_a, f_word' good_b]
theorem spoilt_good : (Lab.choice [("a", ""), ("b", "h")]).good := by
  show GoodEs _
  refine ⟨by simp, fun p hp => ?_, ?_⟩
  · simp only [List.mem_cons, List.not_mem_nil, or_false] at hp
    rcases hp with rfl | rfl
    · exact ⟨by decide +kernel, by decide +kernel, by decide +kernel⟩
    · exact ⟨by decide +kernel, by decide +kernel, by decide +kernel⟩
  · simp [ofString_inj]
/-- put_at with a faulty part -/
theorem f_put_err {k c : Kd} {p : List Nat} {b : D} {x : Ex} {st : Sto} (h : k.fine) (hg : get k p = some c) (hb : F_check_kind [b, .bl false] st = .err x [] st) : F_put_at [k.D, pathD p, b] st = .err x [] st := by
  have e1 := f_check (st := st) h
  have e2 := f_get (st := st) h.1.wf hg
  unfold F_put_at B_put_at
  simp [e1, e2, kd_nn, hb]
theorem f_refused {k c : Kd} {p q : List Nat} {b : D} {st : Sto} (h : k.fine) (hg : get k p = some c) (hb : F_check_kind [b, .bl false] st = .err (badKind q) [] st) : F__law_refused [k.D, pathD p, b] st = .ok (.own [.str "BadKind", pathD q]) st := by
  have e := f_put_err h hg hb
  unfold F__law_refused B__law_refused qTryAs
  simp [e, badKind, isC_KeysinlineError, isC_BadKind, isC_BadPath, okF_path, ofString_inj, sIsE, sExF, noExn, unexn, smallLine]
end KP
set_option Elab.async false
set_option linter.all false
set_option maxRecDepth 100000
set_option maxHeartbeats 1000000
set_option autoImplicit false
set_option exponentiation.threshold 5000
/-! RP: the plain law of k53: the law. -/
namespace KP
open PySem PySem.Spec PyProof.Rows L2 Ds KG
theorem kd_ne (k : Kd) : k.D ≠ .non := by
  obtain ⟨l, ks⟩ := k
  rw [kd_eq]
  cases l <;> (unfold Lab.D; intro h; cases h)
theorem same {st : Sto} (k : Kd) (h : k.fine) : F__law_same [k.D, k.D] st = .ok (.val (.bl true)) st := f_same_kd h
theorem put_fine {k c q : Kd} {P : List Nat} (hg : get k P = some c) (ho : k.ok) (hq : q.ok) (h1 : k.size + q.size ≤ 25) (h2 : k.letters + q.letters ≤ 60) (h3 : dep k + dep q ≤ 3) : (put k P q).fine := by
  have a1 := put_size P k c q hg
  have a2 := put_letters P k c q hg
  have a3 := put_dep P k c q hg
  have a4 := size_pos c
  exact ⟨put_ok P k c q hg ho hq, by omega, by omega, by rw [deepS_zero]; omega⟩
theorem put_ok' {k c q : Kd} {p : List Nat} {st : Sto} (hk : k.fine) (hg : get k p = some c) (hp : p.length ≤ 1000) (hq : q.fine) (hr : (put k p q).fine) : F_put_at [k.D, pathD p, q.D] st = .ok (.val (put k p q).D) st :=
  f_put hk.1.wf hg hp (f_check hk) (f_check hq) (f_check hr) (kd_ne c)
theorem f_spl {K Q c : Kd} {P : List Nat} {st : Sto} (hK : K.fine) (hQ : Q.fine) (hg : get K P = some c) (hP : P.length ≤ 100) :
    F__law_spliced [.lst ((walk [] true K).map listD), pathD P, .bl (dirAt K P true), .lst ((walk [] true Q).map listD)] st = .ok (.val (.lst ((walk [] true (put K P Q)).map listD))) st := by
  rw [f_spliced (by rw [walk_len]; have := hK.2.1; omega) (by rw [walk_len]; have := hQ.2.1; omega) hP (fun x hx => by have := walk_path hx; have := hQ.2.1; omega)]
  have h := splice Q P K c [] true hg
  have e := walk_shift P (dirAt K P true) [] true Q
  rw [List.append_nil] at e
  rw [List.nil_append] at h
  rw [h]
  have : (true == dirAt K P true) = dirAt K P true := by cases dirAt K P true <;> rfl
  rw [this] at e
  rw [e]
/-- where another part may stand -/
def isApart (P R : List Nat) : Bool := !decide (R.take P.length = P) && !decide (P.take R.length = R)
theorem isApart_iff {P R : List Nat} (h : isApart P R = true) : Apart2 P R := by
  unfold isApart at h
  simp at h
  exact h
theorem deps_mem : ∀ (ks : List Kd) (i : Nat) (x : Kd), ks[i]? = some x → dep x ≤ deps ks
  | [], i, x, h => by simp at h
  | k :: ks, 0, x, h => by
    simp only [List.getElem?_cons_zero, Option.some.injEq] at h
    subst h
    rw [deps]; omega
  | k :: ks, i + 1, x, h => by
    have := deps_mem ks i x (by simpa using h)
    rw [deps]; omega
theorem get_dep : ∀ (P : List Nat) (k c : Kd), get k P = some c → dep c ≤ dep k
  | [], k, c, h => by
    simp only [get, Option.some.injEq] at h
    rw [h]; exact Nat.le_refl _
  | i :: P, .mk l ks, c, h => by
    obtain ⟨x, hk, h'⟩ := get_step h
    have h1 := get_dep P x c h'
    have h2 := deps_mem ks i x hk
    rw [dep]; omega
theorem plain_law (ns : List Int) (hns : ns.length ≤ 63) : ∃ st, F_law [.fz (ns.map D.int)] [] = .ok (.val (.bl true)) st := by
  obtain ⟨x7, e0', ok7⟩ := f_store (st := []) hns
  generalize hst0 : ([some (.lst x7.D)] : Sto) = st0
  have e0 : F__law_store [.fz (ns.map D.int)] [] = .ok (.own x7.D) [] := e0'
  have g0 : GS st0 0 0 := ⟨x7, by rw [← hst0]; rfl, ok7⟩
  obtain ⟨t, st1, e1, l1, g1, F1⟩ := f_takeI (m := 6) g0 (by omega) (by omega) (by omega)
  obtain ⟨K, st2, e2, K1, K2, K3, K4, g2⟩ := f_any (size := if decide (t = 0) then 18 else 12) (letters := if decide (t = 0) then 36 else 24) (deep := 2) g1 (by split <;> omega) (by split <;> omega) (by split <;> omega)
  have K2' : K.size ≤ 18 := Nat.le_trans K2 (by split <;> omega)
  have K3' : K.letters ≤ 36 := Nat.le_trans K3 (by split <;> omega)
  have g2' : GS st2 0 54100 := g2.mono (by split <;> omega)
  obtain ⟨Q, st3, e3, Q1, Q2, Q3, Q4, g3⟩ := f_any (size := 6) (letters := 20) (deep := 1) g2' (by omega) (by omega) (by omega)
  obtain ⟨M, st4, e4, M1, M2, M3, M4, g4⟩ := f_any (size := 2) (letters := 4) (deep := 0) g3 (by omega) (by omega) (by omega)
  have fK : K.fine := ⟨K1, by omega, by omega, by rw [deepS_zero]; omega⟩
  have fQ : Q.fine := ⟨Q1, by omega, by omega, by rw [deepS_zero]; omega⟩
  have fM : M.fine := ⟨M1, by omega, by omega, by rw [deepS_zero]; omega⟩
  have e3' : F__law_any_kind [.ref 0, .int 6, .int 20, .int 1] st2 = .ok (.val Q.D) st3 := e3
  have e4' : F__law_any_kind [.ref 0, .int 2, .int 4, .int 0] st3 = .ok (.val M.D) st4 := e4
  have lw : ∀ st : Sto, F__law_walk [K.D] st = .ok (.own ((walk [] true K).map litemD)) st := fun st => f_lwalk K1.wf (by omega)
  obtain ⟨y, st5, e5, hy, g5, F5⟩ := pick_lst (xs := (walk [] true K).map litemD) g4 (by omega) (by
    intro z
    rw [List.map_eq_nil_iff] at z
    exact walk_ne _ _ _ z) (by rw [List.length_map, walk_len]; omega)
  obtain ⟨x, hx, rfl⟩ := List.mem_map.mp hy
  obtain ⟨P, hP, hg, hd⟩ := walk_get [] true K x hx
  have hxl := walk_path hx
  rw [List.nil_append] at hP
  rw [← hP] at hg hd
  -- other places
  generalize hA : ((walk [] true K).map (·.1)).filter (isApart x.1) = A
  have eA : ∀ s9 : Option Sl, lcL (stepC (.nm 18) (bAnd (c2 neD (sSl (sIx (sVar 18) (sC (.int 0))) pNone (pSome (s1 lenD (sV (sVar 6))))) (sV (sVar 6))) (c2 neD (sSl (sVar 6) pNone (pSome (s1 lenD (sV (sIx (sVar 18) (sC (.int 0))))))) (sV (sIx (sVar 18) (sC (.int 0)))))) (sIx (sVar 18) (sC (.int 0)))
      [some (.val (.fz (ns.map D.int))), some (.val (.ref 0)), some (.val (.bl (decide (t = 0)))), some (.val K.D), some (.val Q.D), some (.val M.D), some (.val (pathD x.1)), some (.val x.2.1.D), some (.val (.bl x.2.2)), s9, none, none, none, none, none, none, none, none, none]) ((walk [] true K).map litemD) [] st5 = .ok (A.map pathD) st5 := fun s9 => by
    have hA2 : A.map pathD = ((walk [] true K).filter fun z => isApart x.1 z.1).map fun z => pathD z.1 := by
      rw [← hA, List.filter_map, List.map_map]
      rfl
    rw [hA2, lc_on (g := fun z => if isApart x.1 z.1 then some (pathD z.1) else none) (walk [] true K) [] (fun z hz => ?_) (by rw [walk_len, List.length_nil]; omega), List.nil_append, filterMap_if]
    have i0 : ∀ st : Sto, idxD (litemD z) (.int 0) st = .ok (pathD z.1) st := fun st => by simp [litemD]
    have ed : ∀ st : Sto, derefD (litemD z) st = .ok (litemD z) st := fun st => by simp [litemD]
    by_cases h1 : z.1.take x.1.length = x.1
    · simp [stepC_eq, i0, ed, deref_path, len_path, slice_path, neD_path, isApart, h1]
    · by_cases h2 : x.1.take z.1.length = z.1 <;> simp [stepC_eq, i0, ed, deref_path, len_path, slice_path, neD_path, isApart, h1, h2]
  have hAl : A.length ≤ 18 := by
    rw [← hA]
    refine Nat.le_trans (List.length_filter_le _ _) ?_
    rw [List.length_map, walk_len]
    exact K2'
  have hAp : ∀ R ∈ A, Apart2 x.1 R ∧ R.length ≤ 18 ∧ ∃ d, get K R = some d := fun R hR => by
    rw [← hA] at hR
    obtain ⟨h1, h2⟩ := List.mem_filter.mp hR
    obtain ⟨z, hz, rfl⟩ := List.mem_map.mp h1
    obtain ⟨q, q1, q2, q3⟩ := walk_get [] true K z hz
    rw [List.nil_append] at q1
    rw [← q1] at q2
    exact ⟨isApart_iff h2, Nat.le_trans (walk_path hz) K2', _, q2⟩
  -- the other place
  have hO : ∃ (o : D) (st6 : Sto), sIf (c2 neD (sVar 9) (sV (sF (sLst sNil)))) (sCall F__law_pick [] (sCons (sVar 1) (sCons (sVar 9) sNil))) (sC .non) [some (.val (.fz (ns.map D.int))), some (.val (.ref 0)), some (.val (.bl (decide (t = 0)))), some (.val K.D), some (.val Q.D), some (.val M.D), some (.val (pathD x.1)), some (.val x.2.1.D), some (.val (.bl x.2.2)), some (.val (.lst (A.map pathD))), none, none, none, none, none, none, none, none, none] st5 = .ok o st6 ∧
      (o = .non ∨ ∃ R ∈ A, o = pathD R) ∧ GS st6 0 80000 := by
    have en := neD_nil (xs := A.map pathD) (st := st5) (fun d hd => by
      obtain ⟨R, _, rfl⟩ := List.mem_map.mp hd
      exact plain_path R)
    cases hA0 : A with
    | nil =>
      rw [hA0] at en
      refine ⟨.non, st5, ?_, .inl rfl, g5.mono (by omega)⟩
      simp at en
      simp [smallLine, en]
    | cons R0 RS =>
      obtain ⟨y, st6, e6, hy, g6, F6⟩ := pick_lst (xs := A.map pathD) g5 (by omega) (by rw [hA0]; simp) (by rw [List.length_map]; omega)
      obtain ⟨R, hR, rfl⟩ := List.mem_map.mp hy
      refine ⟨pathD R, st6, ?_, .inr ⟨R, by rw [← hA0]; exact hR, rfl⟩, g6.mono (by omega)⟩
      rw [← hA0]
      have en' : neD (.lst (A.map pathD)) (.lst []) st5 = .ok true st5 := by rw [en, hA0]; rfl
      simp [smallLine, en', e6]
  obtain ⟨o, st6, eO', ho, g6⟩ := hO
  have eO : qSet 10 (sIf (c2 neD (sVar 9) (sV (sF (sLst sNil)))) (sCall F__law_pick [] (sCons (sVar 1) (sCons (sVar 9) sNil))) (sC .non)) [some (.val (.fz (ns.map D.int))), some (.val (.ref 0)), some (.val (.bl (decide (t = 0)))), some (.val K.D), some (.val Q.D), some (.val M.D), some (.val (pathD x.1)), some (.val x.2.1.D), some (.val (.bl x.2.2)), some (.val (.lst (A.map pathD))), none, none, none, none, none, none, none, none, none] st5 =
      .ok (.nx [some (.val (.fz (ns.map D.int))), some (.val (.ref 0)), some (.val (.bl (decide (t = 0)))), some (.val K.D), some (.val Q.D), some (.val M.D), some (.val (pathD x.1)), some (.val x.2.1.D), some (.val (.bl x.2.2)), some (.val (.lst (A.map pathD))), some (.val o), none, none, none, none, none, none, none, none]) st6 := by
    rw [qSet_eq, eO']
    simp
  -- faulty things
  let bads : List D := [.tup [.str "table", .tup []], .tup [.str "row", .lst [Q.D]], .tup [.str "turned", Q.D, Q.D], .non, .tup [.str "list", .str "a", .str "b", .str "up", Q.D]]
  obtain ⟨b, st7, e7, hb, g7, F7⟩ := pick_lst (xs := bads) g6 (by omega) (by simp [bads]) (by simp [bads])
  have hbad : Bad b := by
    simp only [bads, List.mem_cons, List.not_mem_nil, or_false] at hb
    rcases hb with rfl | rfl | rfl | rfl | rfl
    · exact bad_table
    · exact bad_row _
    · exact bad_turned _
    · exact bad_non
    · exact bad_list _
  obtain ⟨sp, st8, e8, hsp, g8, F8⟩ := pick_lst (xs := [Lab.row.D [Q.D, b], (Lab.choice [("a", ""), ("b", "h")]).D [Q.D, b]]) g7 (by omega) (by simp) (by simp)
  have e8' : F__law_pick [.ref 0, .lst [.tup [.str "row", .tup [Q.D, b]], .tup [.str "choice", .tup [.tup [.str "a", .str "", Q.D], .tup [.str "b", .str "h", b]]]]] st7 = .ok (.val sp) st8 := e8
  have hspK : F_check_kind [sp, .bl false] st8 = .err (badKind [1]) [] st8 := by
    simp only [List.mem_cons, List.not_mem_nil, or_false] at hsp
    rcases hsp with rfl | rfl
    · exact f_check_err (f_sizes_bad1 (by show 2 ≤ 6; omega) trivial Q1 (by omega) hbad)
    · exact f_check_err (f_sizes_bad1 ⟨rfl, by omega⟩ spoilt_good Q1 (by omega) hbad)
  have hbK : F_check_kind [b, .bl false] st8 = .err (badKind []) [] st8 := f_check_err (f_sizes_bad hbad)
  -- what the law looks at
  have lK := f_lists (st := st8) K1 (by omega)
  have lQ := f_lists (st := st8) Q1 (by omega)
  have eU' := f_lput (q := Q) (st := st8) K1.wf hg (by omega)
  generalize hU : put K x.1 Q = U at eU'
  have eU := eU'
  have fU : U.fine := by rw [← hU]; exact put_fine hg K1 Q1 (by omega) (by omega) (by omega)
  have s1 := f_shows (st := st8) fK
  have s2 := f_shows (st := st8) fQ
  have h1 := f_hold (st := st8) fK
  have pU : F_put_at [K.D, pathD x.1, Q.D] st8 = .ok (.val U.D) st8 := by
    have := put_ok' (st := st8) fK hg (by omega) fQ (by rw [hU]; exact fU)
    rwa [hU] at this
  have eS : F__law_spliced [.lst ((walk [] true K).map listD), pathD x.1, .bl x.2.2, .lst ((walk [] true Q).map listD)] st8 = .ok (.val (.lst ((walk [] true U).map listD))) st8 := by
    have := f_spl (st := st8) fK fQ hg (by omega)
    rwa [hd, hU] at this
  have s3 := f_shows (st := st8) fU
  have h2 := f_hold (st := st8) fU
  have hgU : get U x.1 = some Q := by rw [← hU]; exact get_put _ _ _ _ hg
  have hxo : x.2.1.fine := by
    have a1 := walk_all [] true K K1 x hx
    have a2 := walk_size [] true K x hx
    have a3 := put_letters x.1 K x.2.1 (.mk .row []) hg
    have a4 := get_dep x.1 K x.2.1 hg
    have a5 : (Kd.mk .row []).letters = 0 := by rw [Kd.letters, Kd.letterss]; rfl
    exact ⟨a1, by omega, by omega, by rw [deepS_zero]; omega⟩
  have pBack : F_put_at [U.D, pathD x.1, x.2.1.D] st8 = .ok (.val K.D) st8 := by
    have e : put U x.1 x.2.1 = K := by rw [← hU, put_put _ _ _ _ _ hg, put_get _ _ _ hg]
    have := put_ok' (st := st8) fU hgU (by omega) hxo (by rw [e]; exact fK)
    rwa [e] at this
  have pTop : F_put_at [K.D, .tup [], Q.D] st8 = .ok (.val Q.D) st8 := by
    have := put_ok' (p := []) (c := K) (st := st8) fK rfl (by simp) fQ (by rw [put_nil]; exact fQ)
    rwa [put_nil] at this
  have pOld : F_put_at [K.D, pathD x.1, x.2.1.D] st8 = .ok (.val K.D) st8 := by
    have e : put K x.1 x.2.1 = K := put_get _ _ _ hg
    have := put_ok' (st := st8) fK hg (by omega) hxo (by rw [e]; exact fK)
    rwa [e] at this
  have zK := kd_sz K K1
  have zQ := kd_sz Q Q1
  have zM := kd_sz M M1
  have sm1 : F__law_same [.lst [Q.D, K.D], .lst [Q.D, K.D]] st8 = .ok (.val (.bl true)) st8 := f_same (by simp [pl, pls, kd_pl]) (by simp [sz, szs]; omega)
  have r1 := f_refused (st := st8) fK hg hspK
  have r2 := f_refused (st := st8) fK hg hbK
  have sm3 : F__law_same [.lst [.lst [.str "BadKind", .tup [.int 1]], .lst [.str "BadKind", .tup []]], .lst [.lst [.str "BadKind", .tup [.int 1]], .lst [.str "BadKind", .tup []]]] st8 = .ok (.val (.bl true)) st8 := f_same (by simp [pl, pls]) (by simp [sz, szs])
  have r1' : F__law_refused [K.D, pathD x.1, sp] st8 = .ok (.own [.str "BadKind", .tup [.int 1]]) st8 := r1
  have r2' : F__law_refused [K.D, pathD x.1, b] st8 = .ok (.own [.str "BadKind", .tup []]) st8 := r2
  have b : B_law [some (.val (.fz (ns.map D.int))), none, none, none, none, none, none, none, none, none, none, none, none, none, none, none, none, none, none] [] = .ok (.rt (.val (.bl true))) st8 := by
    unfold B_law
    rw [seq_go (ρ1 := [some (.val (.fz (ns.map D.int))), some (.val (.ref 0)), none, none, none, none, none, none, none, none, none, none, none, none, none, none, none, none, none]) (st1 := st0) (by
      simp [e0, hst0])]
    rw [seq_go (ρ1 := [some (.val (.fz (ns.map D.int))), some (.val (.ref 0)), some (.val (.bl (decide (t = 0)))), none, none, none, none, none, none, none, none, none, none, none, none, none, none, none, none]) (st1 := st1) (by
      simp [e1, eqD_int])]
    rw [seq_go (ρ1 := [some (.val (.fz (ns.map D.int))), some (.val (.ref 0)), some (.val (.bl (decide (t = 0)))), some (.val K.D), none, none, none, none, none, none, none, none, none, none, none, none, none, none, none]) (st1 := st2) (by
      cases hg : decide (t = 0) <;> (rw [hg] at e2; simp at e2; simp [e2]))]
    rw [seq_go (ρ1 := [some (.val (.fz (ns.map D.int))), some (.val (.ref 0)), some (.val (.bl (decide (t = 0)))), some (.val K.D), some (.val Q.D), none, none, none, none, none, none, none, none, none, none, none, none, none, none]) (st1 := st3) (by
      simp [e3'])]
    rw [seq_go (ρ1 := [some (.val (.fz (ns.map D.int))), some (.val (.ref 0)), some (.val (.bl (decide (t = 0)))), some (.val K.D), some (.val Q.D), some (.val M.D), none, none, none, none, none, none, none, none, none, none, none, none, none]) (st1 := st4) (by
      simp [e4'])]
    rw [seq_go (ρ1 := [some (.val (.fz (ns.map D.int))), some (.val (.ref 0)), some (.val (.bl (decide (t = 0)))), some (.val K.D), some (.val Q.D), some (.val M.D), some (.val (pathD x.1)), some (.val x.2.1.D), some (.val (.bl x.2.2)), none, none, none, none, none, none, none, none, none, none]) (st1 := st5) (by
      simp [lw, e5, litemD])]
    rw [seq_go (ρ1 := [some (.val (.fz (ns.map D.int))), some (.val (.ref 0)), some (.val (.bl (decide (t = 0)))), some (.val K.D), some (.val Q.D), some (.val M.D), some (.val (pathD x.1)), some (.val x.2.1.D), some (.val (.bl x.2.2)), some (.val (.lst (A.map pathD))), none, none, none, none, none, none, none, none, none]) (st1 := st5) (by
      simp [lw, eA])]
    rw [seq_go (ρ1 := [some (.val (.fz (ns.map D.int))), some (.val (.ref 0)), some (.val (.bl (decide (t = 0)))), some (.val K.D), some (.val Q.D), some (.val M.D), some (.val (pathD x.1)), some (.val x.2.1.D), some (.val (.bl x.2.2)), some (.val (.lst (A.map pathD))), some (.val o), none, none, none, none, none, none, none, none]) (st1 := st6) (by
      exact eO)]
    rw [seq_go (ρ1 := [some (.val (.fz (ns.map D.int))), some (.val (.ref 0)), some (.val (.bl (decide (t = 0)))), some (.val K.D), some (.val Q.D), some (.val M.D), some (.val (pathD x.1)), some (.val x.2.1.D), some (.val (.bl x.2.2)), some (.val (.lst (A.map pathD))), some (.val o), some (.val (.lst bads)), none, none, none, none, none, none, none]) (st1 := st6) (by
      simp [smallLine, bads])]
    rw [seq_go (ρ1 := [some (.val (.fz (ns.map D.int))), some (.val (.ref 0)), some (.val (.bl (decide (t = 0)))), some (.val K.D), some (.val Q.D), some (.val M.D), some (.val (pathD x.1)), some (.val x.2.1.D), some (.val (.bl x.2.2)), some (.val (.lst (A.map pathD))), some (.val o), some (.val b), none, none, none, none, none, none, none]) (st1 := st7) (by
      simp [e7])]
    rw [seq_go (ρ1 := [some (.val (.fz (ns.map D.int))), some (.val (.ref 0)), some (.val (.bl (decide (t = 0)))), some (.val K.D), some (.val Q.D), some (.val M.D), some (.val (pathD x.1)), some (.val x.2.1.D), some (.val (.bl x.2.2)), some (.val (.lst (A.map pathD))), some (.val o), some (.val b), some (.val sp), none, none, none, none, none, none]) (st1 := st8) (by
      simp [smallLine, e8'])]
    rw [seq_go (ρ1 := [some (.val (.fz (ns.map D.int))), some (.val (.ref 0)), some (.val (.bl (decide (t = 0)))), some (.val K.D), some (.val Q.D), some (.val M.D), some (.val (pathD x.1)), some (.val x.2.1.D), some (.val (.bl x.2.2)), some (.val (.lst (A.map pathD))), some (.val o), some (.val b), some (.val sp), some (.val (.lst ((walk [] true K).map listD))), none, none, none, none, none]) (st1 := st8) (by
      simp [lK])]
    rw [seq_go (ρ1 := [some (.val (.fz (ns.map D.int))), some (.val (.ref 0)), some (.val (.bl (decide (t = 0)))), some (.val K.D), some (.val Q.D), some (.val M.D), some (.val (pathD x.1)), some (.val x.2.1.D), some (.val (.bl x.2.2)), some (.val (.lst (A.map pathD))), some (.val o), some (.val b), some (.val sp), some (.val (.lst ((walk [] true K).map listD))), some (.val (.lst ((walk [] true Q).map listD))), none, none, none, none]) (st1 := st8) (by
      simp [lQ])]
    rw [seq_go (ρ1 := [some (.val (.fz (ns.map D.int))), some (.val (.ref 0)), some (.val (.bl (decide (t = 0)))), some (.val K.D), some (.val Q.D), some (.val M.D), some (.val (pathD x.1)), some (.val x.2.1.D), some (.val (.bl x.2.2)), some (.val (.lst (A.map pathD))), some (.val o), some (.val b), some (.val sp), some (.val (.lst ((walk [] true K).map listD))), some (.val (.lst ((walk [] true Q).map listD))), some (.val U.D), none, none, none]) (st1 := st8) (by
      simp [eU])]
    rw [seq_go (ρ1 := [some (.val (.fz (ns.map D.int))), some (.val (.ref 0)), some (.val (.bl (decide (t = 0)))), some (.val K.D), some (.val Q.D), some (.val M.D), some (.val (pathD x.1)), some (.val x.2.1.D), some (.val (.bl x.2.2)), some (.val (.lst (A.map pathD))), some (.val o), some (.val b), some (.val sp), some (.val (.lst ((walk [] true K).map listD))), some (.val (.lst ((walk [] true Q).map listD))), some (.val U.D), none, none, none]) (st1 := st8) (by
      simp [s1, s2, h1])]
    rw [seq_go (ρ1 := [some (.val (.fz (ns.map D.int))), some (.val (.ref 0)), some (.val (.bl (decide (t = 0)))), some (.val K.D), some (.val Q.D), some (.val M.D), some (.val (pathD x.1)), some (.val x.2.1.D), some (.val (.bl x.2.2)), some (.val (.lst (A.map pathD))), some (.val o), some (.val b), some (.val sp), some (.val (.lst ((walk [] true K).map listD))), some (.val (.lst ((walk [] true Q).map listD))), some (.val U.D), some (.val U.D), none, none]) (st1 := st8) (by
      simp [pU])]
    rw [seq_go (ρ1 := [some (.val (.fz (ns.map D.int))), some (.val (.ref 0)), some (.val (.bl (decide (t = 0)))), some (.val K.D), some (.val Q.D), some (.val M.D), some (.val (pathD x.1)), some (.val x.2.1.D), some (.val (.bl x.2.2)), some (.val (.lst (A.map pathD))), some (.val o), some (.val b), some (.val sp), some (.val (.lst ((walk [] true K).map listD))), some (.val (.lst ((walk [] true Q).map listD))), some (.val U.D), some (.val U.D), none, none]) (st1 := st8) (by
      simp [same U fU, eS, s3])]
    rw [seq_go (ρ1 := [some (.val (.fz (ns.map D.int))), some (.val (.ref 0)), some (.val (.bl (decide (t = 0)))), some (.val K.D), some (.val Q.D), some (.val M.D), some (.val (pathD x.1)), some (.val x.2.1.D), some (.val (.bl x.2.2)), some (.val (.lst (A.map pathD))), some (.val o), some (.val b), some (.val sp), some (.val (.lst ((walk [] true K).map listD))), some (.val (.lst ((walk [] true Q).map listD))), some (.val U.D), some (.val U.D), none, none]) (st1 := st8) (by
      simp [h2, pBack, same K fK])]
    rw [seq_go (ρ1 := [some (.val (.fz (ns.map D.int))), some (.val (.ref 0)), some (.val (.bl (decide (t = 0)))), some (.val K.D), some (.val Q.D), some (.val M.D), some (.val (pathD x.1)), some (.val x.2.1.D), some (.val (.bl x.2.2)), some (.val (.lst (A.map pathD))), some (.val o), some (.val b), some (.val sp), some (.val (.lst ((walk [] true K).map listD))), some (.val (.lst ((walk [] true Q).map listD))), some (.val U.D), some (.val U.D), none, none]) (st1 := st8) (by
      rw [if_f (st1 := st8) (by simp [pTop, pOld, smallLine, sm1])]
      simp)]
    rcases ho with rfl | ⟨R, hR, rfl⟩
    · skip
      rw [seq_go (ρ1 := [some (.val (.fz (ns.map D.int))), some (.val (.ref 0)), some (.val (.bl (decide (t = 0)))), some (.val K.D), some (.val Q.D), some (.val M.D), some (.val (pathD x.1)), some (.val x.2.1.D), some (.val (.bl x.2.2)), some (.val (.lst (A.map pathD))), some (.val .non), some (.val b), some (.val sp), some (.val (.lst ((walk [] true K).map listD))), some (.val (.lst ((walk [] true Q).map listD))), some (.val U.D), some (.val U.D), none, none]) (st1 := st8) (by
        rw [if_f (st1 := st8) (by simp [isNB])]
        simp)]
      rw [seq_go (ρ1 := [some (.val (.fz (ns.map D.int))), some (.val (.ref 0)), some (.val (.bl (decide (t = 0)))), some (.val K.D), some (.val Q.D), some (.val M.D), some (.val (pathD x.1)), some (.val x.2.1.D), some (.val (.bl x.2.2)), some (.val (.lst (A.map pathD))), some (.val .non), some (.val b), some (.val sp), some (.val (.lst ((walk [] true K).map listD))), some (.val (.lst ((walk [] true Q).map listD))), some (.val U.D), some (.val (.lst [.lst [.str "BadKind", .tup [.int 1]], .lst [.str "BadKind", .tup []]])), none, none]) (st1 := st8) (by
        simp [r1', r2', smallLine])]
      simp [sm3, smallLine]
    · obtain ⟨ap, hRl, d, hgR⟩ := hAp R hR
      have hgUR : get U R = some d := by rw [← hU]; exact get_apart _ _ _ _ _ _ ap hg hgR
      have eB := f_lput (q := M) (st := st8) fU.1.wf hgUR (by omega)
      generalize hB : put U R M = B at eB
      have zU : U.size ≤ 23 ∧ U.letters ≤ 56 ∧ dep U ≤ 3 := by
        have a1 := put_size x.1 K x.2.1 Q hg
        have a2 := put_letters x.1 K x.2.1 Q hg
        have a3 := put_dep x.1 K x.2.1 Q hg
        have a4 := size_pos x.2.1
        rw [hU] at a1 a2 a3
        omega
      have fB : B.fine := by rw [← hB]; exact put_fine hgUR fU.1 M1 (by omega) (by omega) (by omega)
      have p1 : F_put_at [U.D, pathD R, M.D] st8 = .ok (.val B.D) st8 := by
        have := put_ok' (st := st8) fU hgUR (by omega) fM (by rw [hB]; exact fB)
        rwa [hB] at this
      have fV : (put K R M).fine := put_fine hgR K1 M1 (by omega) (by omega) (by omega)
      have p2 := put_ok' (st := st8) fK hgR (by omega) fM fV
      have hgV : get (put K R M) x.1 = some x.2.1 := get_apart R x.1 K d x.2.1 M ⟨ap.2, ap.1⟩ hgR hg
      have hVB : put (put K R M) x.1 Q = B := by rw [← put_apart2 _ _ _ _ _ _ _ ap hg hgR, hU, hB]
      have p3 : F_put_at [(put K R M).D, pathD x.1, Q.D] st8 = .ok (.val B.D) st8 := by
        have := put_ok' (st := st8) fV hgV (by omega) fQ (by rw [hVB]; exact fB)
        rwa [hVB] at this
      have zB := kd_sz B fB.1
      have zB2 := fB.2.1
      have sm2 : F__law_same [.lst [B.D, B.D], .lst [B.D, B.D]] st8 = .ok (.val (.bl true)) st8 := f_same (by simp [pl, pls, kd_pl]) (by simp [sz, szs]; omega)
      rw [seq_go (ρ1 := [some (.val (.fz (ns.map D.int))), some (.val (.ref 0)), some (.val (.bl (decide (t = 0)))), some (.val K.D), some (.val Q.D), some (.val M.D), some (.val (pathD x.1)), some (.val x.2.1.D), some (.val (.bl x.2.2)), some (.val (.lst (A.map pathD))), some (.val (pathD R)), some (.val b), some (.val sp), some (.val (.lst ((walk [] true K).map listD))), some (.val (.lst ((walk [] true Q).map listD))), some (.val U.D), some (.val U.D), some (.val B.D), none]) (st1 := st8) (by
        rw [if_t (st1 := st8) (by
          have : isNB not (pathD R) .non st8 = .ok true st8 := rfl
          simp [this])]
        rw [seq_go (ρ1 := [some (.val (.fz (ns.map D.int))), some (.val (.ref 0)), some (.val (.bl (decide (t = 0)))), some (.val K.D), some (.val Q.D), some (.val M.D), some (.val (pathD x.1)), some (.val x.2.1.D), some (.val (.bl x.2.2)), some (.val (.lst (A.map pathD))), some (.val (pathD R)), some (.val b), some (.val sp), some (.val (.lst ((walk [] true K).map listD))), some (.val (.lst ((walk [] true Q).map listD))), some (.val U.D), some (.val U.D), some (.val B.D), none]) (st1 := st8) (by simp [eB])]
        rw [if_f (st1 := st8) (by simp [p1, p2, p3, sm2, smallLine])]
        simp)]
      rw [seq_go (ρ1 := [some (.val (.fz (ns.map D.int))), some (.val (.ref 0)), some (.val (.bl (decide (t = 0)))), some (.val K.D), some (.val Q.D), some (.val M.D), some (.val (pathD x.1)), some (.val x.2.1.D), some (.val (.bl x.2.2)), some (.val (.lst (A.map pathD))), some (.val (pathD R)), some (.val b), some (.val sp), some (.val (.lst ((walk [] true K).map listD))), some (.val (.lst ((walk [] true Q).map listD))), some (.val U.D), some (.val (.lst [.lst [.str "BadKind", .tup [.int 1]], .lst [.str "BadKind", .tup []]])), some (.val B.D), none]) (st1 := st8) (by
        simp [r1', r2', smallLine])]
      simp [sm3, smallLine]
  refine ⟨st8, ?_⟩
  unfold F_law
  simp [b]
end KP
theorem PySem.Challenge.cw_keysinline_k53_parts_exchanged_in_kinds_holds : PySem.Challenge.rw_keysinline_k53_parts_exchanged_in_kinds.Holds :=
  law_holds_of KP.plain_law
