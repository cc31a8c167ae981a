import PyProof.Rows.All
import Wide.All
import OpenK.AllK
import Wide.FinOn
import HandS.ForMost
import HandS.Wide
import HandS.TupAny
import HandS.TupMul
import HandS.TupLe
import HandS.IsInst
import HandS.Style
import HandS.Flow
import HandS.Gcd
import HandS.Deep
import HandS.Zip
import HandS.SortInts
import KE.KSortedM
import KE.KMathG
import Flt.RightSqrt
import PySem.Challenge.RW_numberlore_k05_squares_among_residues
set_option Elab.async false
set_option linter.all false
set_option maxRecDepth 100000
set_option maxHeartbeats 8000000

/-! NL0: values as trees, how they lie in the abstract heap, owned lists, the evaluator's state -/
namespace NL
open PySem PySem.Spec L2
open PyProof.Rows hiding St

/-- the built-in types that a program names -/
inductive TyN where
  | int | bl | str | lst | tup | dct | non
def TyN.name : TyN → String
  | .int => "int"
  | .bl => "bool"
  | .str => "str"
  | .lst => "list"
  | .tup => "tuple"
  | .dct => "dict"
  | .non => "NoneType"
inductive D where
  | non
  | bl (b : Bool)
  | int (i : Int)
  | str (x : Str)
  | ty (n : TyN)
  | tup (l : List D)
  | lst (l : List D)
  | fl (l : List D)
  | dK (ks : List Key) (vs : List D)
  | dT (ks : List (List Key)) (vs : List D)

abbrev Frag := PySem.W.Frag
def KLw (K : Frag) (a : Addr) (xs : List V) : Prop :=
  ∃ (o : Obj) (its : Array Value) (n : Nat), K.lookup a = some o ∧ o.cls = .type "list" ∧ o.dict = none ∧ o.data = .seq its n ∧ its.size ≤ sizeLine ∧ Vals xs its.toList
def KTw (K : Frag) (a : Addr) (xs : List V) : Prop :=
  ∃ (o : Obj) (its : Array Value) (n : Nat), K.lookup a = some o ∧ o.cls = .type "tuple" ∧ o.data = .seq its n ∧ its.size ≤ sizeLine ∧ Vals xs its.toList

mutual
def Den (K : Frag) (H : Hp) (Av : Addr → Prop) : D → V → Prop
  | .non, v => v = .non
  | .bl b, v => v = .bl b
  | .int i, v => v = .int i
  | .str x, v => v = .str x
  | .ty n, v => v = .ty n.name
  | .tup l, v => ∃ a xs, v = .ref a ∧ H a = some (.tup xs) ∧ ¬ Av a ∧ Dens K H Av l xs
  | .lst l, v => ∃ a xs, v = .ref a ∧ H a = some (.lst xs) ∧ ¬ Av a ∧ Dens K H Av l xs
  | .fl l, v => ∃ a xs, v = .ref a ∧ ((Rd H a (.lst xs) ∧ ¬ Av a) ∨ KLw K a xs) ∧ Dens K H Av l xs
  | .dK ks l, v => ∃ a kvs, v = .ref a ∧ H a = some (.dK kvs) ∧ ¬ Av a ∧ kvs.map (·.1) = ks ∧ Dens K H Av l (kvs.map (·.2))
  | .dT ks l, v => ∃ a kvs, v = .ref a ∧ H a = some (.dT kvs) ∧ ¬ Av a ∧ kvs.map (·.1) = ks ∧ Dens K H Av l (kvs.map (·.2))
def Dens (K : Frag) (H : Hp) (Av : Addr → Prop) : List D → List V → Prop
  | [], xs => xs = []
  | d :: l, xs => ∃ x r, xs = x :: r ∧ Den K H Av d x ∧ Dens K H Av l r
end

theorem Rd.to {H H' : Hp} {a : Addr} {u : HO} (r : Rd H a u) (h : ∀ o, H a = some o → H' a = some o) : Rd H' a u := by
  rcases r with r | ⟨o, r⟩
  · exact .inl (h _ r)
  · exact .inr ⟨o, h _ r⟩
theorem Rd.ne {H : Hp} {a : Addr} {u : HO} (r : Rd H a u) : H a ≠ none := by
  rcases r with r | ⟨o, r⟩ <;> (rw [r]; exact fun z => nomatch z)

section
variable {K : Frag} {H H' : Hp} {Av Av' : Addr → Prop}
mutual
theorem Den.to (h1 : ∀ a o, H a = some o → ¬ Av a → H' a = some o) (h2 : ∀ a, H a ≠ none → ¬ Av a → ¬ Av' a) : ∀ (d : D) (v : V), Den K H Av d v → Den K H' Av' d v
  | .non, v, h => by simpa [Den] using h
  | .bl b, v, h => by simpa [Den] using h
  | .int i, v, h => by simpa [Den] using h
  | .str x, v, h => by simpa [Den] using h
  | .ty n, v, h => by simpa [Den] using h
  | .tup l, v, h => by
    rw [Den] at h ⊢
    obtain ⟨a, xs, e, t, n, r⟩ := h
    exact ⟨a, xs, e, h1 a _ t n, h2 a (by rw [t]; exact fun z => nomatch z) n, Dens.to h1 h2 l _ r⟩
  | .lst l, v, h => by
    rw [Den] at h ⊢
    obtain ⟨a, xs, e, t, n, r⟩ := h
    exact ⟨a, xs, e, h1 a _ t n, h2 a (by rw [t]; exact fun z => nomatch z) n, Dens.to h1 h2 l _ r⟩
  | .fl l, v, h => by
    rw [Den] at h ⊢
    obtain ⟨a, xs, e, t, r⟩ := h
    refine ⟨a, xs, e, ?_, Dens.to h1 h2 l xs r⟩
    rcases t with ⟨t, n⟩ | t
    · exact .inl ⟨Rd.to t fun o q => h1 a o q n, h2 a (Rd.ne t) n⟩
    · exact .inr t
  | .dK ks l, v, h => by
    rw [Den] at h ⊢
    obtain ⟨a, kvs, e, t, n, m, r⟩ := h
    exact ⟨a, kvs, e, h1 a _ t n, h2 a (by rw [t]; exact fun z => nomatch z) n, m, Dens.to h1 h2 l _ r⟩
  | .dT ks l, v, h => by
    rw [Den] at h ⊢
    obtain ⟨a, kvs, e, t, n, m, r⟩ := h
    exact ⟨a, kvs, e, h1 a _ t n, h2 a (by rw [t]; exact fun z => nomatch z) n, m, Dens.to h1 h2 l _ r⟩
theorem Dens.to (h1 : ∀ a o, H a = some o → ¬ Av a → H' a = some o) (h2 : ∀ a, H a ≠ none → ¬ Av a → ¬ Av' a) : ∀ (l : List D) (xs : List V), Dens K H Av l xs → Dens K H' Av' l xs
  | [], xs, h => by simpa [Dens] using h
  | d :: l, xs, h => by
    rw [Dens] at h ⊢
    obtain ⟨x, r, e, h3, h4⟩ := h
    exact ⟨x, r, e, Den.to h1 h2 d x h3, Dens.to h1 h2 l r h4⟩
end
/-- a smaller set to be avoided -/
theorem Den.less (h : ∀ a, Av' a → Av a) {d : D} {v : V} (r : Den K H Av d v) : Den K H Av' d v := Den.to (fun _ _ e _ => e) (fun a _ n z => n (h a z)) d v r
theorem Dens.less (h : ∀ a, Av' a → Av a) {d : List D} {v : List V} (r : Dens K H Av d v) : Dens K H Av' d v := Dens.to (fun _ _ e _ => e) (fun a _ n z => n (h a z)) d v r
theorem Dens.length : ∀ {l : List D} {xs : List V}, Dens K H Av l xs → l.length = xs.length
  | [], xs, h => by rw [Dens] at h; rw [h]; rfl
  | d :: l, xs, h => by
    rw [Dens] at h
    obtain ⟨x, r, e, _, h4⟩ := h
    rw [e, List.length_cons, List.length_cons, Dens.length h4]
theorem Dens.get : ∀ {l : List D} {xs : List V} {i : Nat} {d : D}, Dens K H Av l xs → l[i]? = some d → ∃ x, xs[i]? = some x ∧ Den K H Av d x
  | [], xs, i, d, h, e => by simp at e
  | d' :: l, xs, 0, d, h, e => by
    rw [Dens] at h
    obtain ⟨x, r, rfl, h3, h4⟩ := h
    simp at e
    exact ⟨x, rfl, e ▸ h3⟩
  | d' :: l, xs, i + 1, d, h, e => by
    rw [Dens] at h
    obtain ⟨x, r, rfl, h3, h4⟩ := h
    obtain ⟨y, h5, h6⟩ := Dens.get (i := i) h4 (by simpa using e)
    exact ⟨y, by simpa using h5, h6⟩
theorem Dens.none_of {l : List D} {xs : List V} {i : Nat} (h : Dens K H Av l xs) (e : l[i]? = none) : xs[i]? = none := by
  have h1 := h.length
  have h2 : l.length ≤ i := List.getElem?_eq_none_iff.mp e
  exact List.getElem?_eq_none_iff.mpr (by omega)
theorem Dens.append : ∀ {l m : List D} {xs ys : List V}, Dens K H Av l xs → Dens K H Av m ys → Dens K H Av (l ++ m) (xs ++ ys)
  | [], m, xs, ys, h, h' => by rw [Dens] at h; subst h; exact h'
  | d :: l, m, xs, ys, h, h' => by
    rw [Dens] at h
    obtain ⟨x, r, rfl, h3, h4⟩ := h
    show Dens K H Av (d :: (l ++ m)) (x :: (r ++ ys))
    rw [Dens]
    exact ⟨x, _, rfl, h3, Dens.append h4 h'⟩
theorem Dens.nil : Dens K H Av [] [] := by rw [Dens]
theorem Dens.cons {d : D} {l : List D} {x : V} {r : List V} (h : Den K H Av d x) (t : Dens K H Av l r) : Dens K H Av (d :: l) (x :: r) := by
  rw [Dens]; exact ⟨x, r, rfl, h, t⟩
theorem Dens.one {d : D} {x : V} (h : Den K H Av d x) : Dens K H Av [d] [x] := .cons h .nil
theorem Dens.set : ∀ {l : List D} {xs : List V} (i : Nat) {d : D} {x : V}, Dens K H Av l xs → Den K H Av d x → Dens K H Av (l.set i d) (xs.set i x)
  | [], xs, i, d, x, h, _ => by rw [Dens] at h; subst h; exact .nil
  | d' :: l, xs, 0, d, x, h, h' => by
    rw [Dens] at h
    obtain ⟨y, r, rfl, h3, h4⟩ := h
    exact .cons h' h4
  | d' :: l, xs, i + 1, d, x, h, h' => by
    rw [Dens] at h
    obtain ⟨y, r, rfl, h3, h4⟩ := h
    exact .cons h3 (Dens.set i h4 h')
theorem Dens.take : ∀ {l : List D} {xs : List V} (n : Nat), Dens K H Av l xs → Dens K H Av (l.take n) (xs.take n)
  | l, xs, 0, h => by simpa using Dens.nil
  | [], xs, n + 1, h => by rw [Dens] at h; subst h; exact .nil
  | d' :: l, xs, n + 1, h => by
    rw [Dens] at h
    obtain ⟨y, r, rfl, h3, h4⟩ := h
    exact .cons h3 (Dens.take n h4)
theorem Dens.drop : ∀ {l : List D} {xs : List V} (n : Nat), Dens K H Av l xs → Dens K H Av (l.drop n) (xs.drop n)
  | l, xs, 0, h => by simpa using h
  | [], xs, n + 1, h => by rw [Dens] at h; subst h; exact .nil
  | d' :: l, xs, n + 1, h => by
    rw [Dens] at h
    obtain ⟨y, r, rfl, h3, h4⟩ := h
    exact Dens.drop n h4
end

/-! ### slots, the state -/
inductive Sl where
  | no
  | sh (d : D)
  | ow (d : D)
  | lk (d : D)
  | io (d : D)
abbrev Env := List Sl
/-- what stands around a body: the written part, what others own, the heap at the entry, an argument that the body may change -/
structure Cf where
  K : Frag
  A0 : Addr → Prop
  H0 : Hp
  io : Option Addr
structure Ps where
  ow : Nat → Option Addr
  sg : St
  H : Hp
  env : Env
def Av (C : Cf) (ow : Nat → Option Addr) : Addr → Prop := fun a => C.A0 a ∨ ∃ i, ow i = some a

/-- an owned list or dict, standing at a -/
def Root (K : Frag) (H : Hp) (A : Addr → Prop) (d : D) (a : Addr) : Prop :=
  match d with
  | .lst l => ∃ xs, H a = some (.lst xs) ∧ Dens K H A l xs
  | .dK ks l => ∃ kvs, H a = some (.dK kvs) ∧ kvs.map (·.1) = ks ∧ Dens K H A l (kvs.map (·.2))
  | .dT ks l => ∃ kvs, H a = some (.dT kvs) ∧ kvs.map (·.1) = ks ∧ Dens K H A l (kvs.map (·.2))
  | _ => False
theorem Root.ne {K : Frag} {H : Hp} {A : Addr → Prop} {d : D} {a : Addr} (r : Root K H A d a) : H a ≠ none := by
  cases d with
  | lst l => obtain ⟨xs, e, _⟩ := r; rw [e]; exact fun z => nomatch z
  | dK ks l => obtain ⟨xs, e, _⟩ := r; rw [e]; exact fun z => nomatch z
  | dT ks l => obtain ⟨xs, e, _⟩ := r; rw [e]; exact fun z => nomatch z
  | _ => exact r.elim
theorem Root.to {K : Frag} {H H' : Hp} {A A' : Addr → Prop} {d : D} {a : Addr} (r : Root K H A d a) (h0 : H' a = H a) (h1 : ∀ a o, H a = some o → ¬ A a → H' a = some o) (h2 : ∀ a, H a ≠ none → ¬ A a → ¬ A' a) : Root K H' A' d a := by
  cases d with
  | lst l => obtain ⟨xs, e, q⟩ := r; exact ⟨xs, h0.trans e, Dens.to h1 h2 _ _ q⟩
  | dK ks l => obtain ⟨xs, e, m, q⟩ := r; exact ⟨xs, h0.trans e, m, Dens.to h1 h2 _ _ q⟩
  | dT ks l => obtain ⟨xs, e, m, q⟩ := r; exact ⟨xs, h0.trans e, m, Dens.to h1 h2 _ _ q⟩
  | _ => exact r.elim
theorem Root.den {K : Frag} {H : Hp} {A : Addr → Prop} {d : D} {a : Addr} (r : Root K H A d a) (n : ¬ A a) : Den K H A d (.ref a) := by
  cases d with
  | lst l => obtain ⟨xs, e, q⟩ := r; rw [Den]; exact ⟨a, xs, rfl, e, n, q⟩
  | dK ks l => obtain ⟨xs, e, m, q⟩ := r; rw [Den]; exact ⟨a, xs, rfl, e, n, m, q⟩
  | dT ks l => obtain ⟨xs, e, m, q⟩ := r; rw [Den]; exact ⟨a, xs, rfl, e, n, m, q⟩
  | _ => exact r.elim

def SlOk (C : Cf) (p : Ps) (i : Nat) : Option Sl → Prop
  | some (.sh d) => p.ow i = none ∧ ∃ v, p.sg[i]? = some (some v) ∧ Den C.K p.H (Av C p.ow) d v
  | some (.ow d) => ∃ a, p.ow i = some a ∧ p.sg[i]? = some (some (.ref a)) ∧ Root C.K p.H (Av C p.ow) d a ∧ C.io ≠ some a
  | some (.lk d) => ∃ a, p.ow i = some a ∧ p.sg[i]? = some (some (.ref a)) ∧ Root C.K p.H (Av C p.ow) d a ∧ C.io ≠ some a
  | some (.io d) => ∃ a, p.ow i = some a ∧ p.sg[i]? = some (some (.ref a)) ∧ Root C.K p.H (Av C p.ow) d a ∧ C.io = some a ∧ i = 0
  | _ => p.ow i = none

structure Rel (C : Cf) (p : Ps) : Prop where
  slot : ∀ i, SlOk C p i p.env[i]?
  inj : ∀ i j a, p.ow i = some a → p.ow j = some a → i = j
  own0 : ∀ i a, p.ow i = some a → C.H0 a = none ∨ C.io = some a
  ownA : ∀ i a, p.ow i = some a → ¬ C.A0 a
  keep : ∀ a o, C.H0 a = some o → C.io ≠ some a → p.H a = some o
  a0 : ∀ a, C.A0 a → p.H a ≠ none
  len : p.env.length ≤ p.sg.length
  ioH : ∀ a, C.io = some a → p.H a ≠ none

structure Tr (p q : Ps) : Prop where
  same : ∀ a o, p.H a = some o → (∀ i, p.ow i ≠ some a) → q.H a = some o
  owns : ∀ i a, q.ow i = some a → (∃ j, p.ow j = some a) ∨ p.H a = none
  trk : ∀ a, p.H a ≠ none → q.H a ≠ none
  lks : ∀ i d, p.env[i]? = some (.lk d) → q.env[i]? = some (.lk d) ∧ q.ow i = p.ow i ∧ q.sg[i]? = p.sg[i]?
  ios : ∀ d, p.env[0]? = some (.io d) → (∃ d', q.env[0]? = some (.io d')) ∧ q.ow 0 = p.ow 0 ∧ q.sg[0]? = p.sg[0]?

theorem Tr.refl (p : Ps) : Tr p p := ⟨fun _ _ e _ => e, fun i a e => .inl ⟨i, e⟩, fun _ n => n, fun _ _ e => ⟨e, rfl, rfl⟩, fun d e => ⟨⟨d, e⟩, rfl, rfl⟩⟩
theorem Tr.trans {p q r : Ps} (h : Tr p q) (k : Tr q r) : Tr p r where
  same := fun a o e n => k.same a o (h.same a o e n) fun i z => by
    rcases h.owns i a z with ⟨j, w⟩ | w
    · exact n j w
    · rw [w] at e; cases e
  owns := fun i a e => by
    rcases k.owns i a e with ⟨j, w⟩ | w
    · exact h.owns j a w
    · right
      cases q' : p.H a with
      | none => rfl
      | some o => exact absurd w (h.trk a (by rw [q']; exact fun z => nomatch z))
  trk := fun a n => k.trk a (h.trk a n)
  lks := fun i d e => by
    obtain ⟨e1, e2, e3⟩ := h.lks i d e
    obtain ⟨f1, f2, f3⟩ := k.lks i d e1
    exact ⟨f1, f2.trans e2, f3.trans e3⟩
  ios := fun d e => by
    obtain ⟨⟨d1, e1⟩, e2, e3⟩ := h.ios d e
    obtain ⟨f1, f2, f3⟩ := k.ios d1 e1
    exact ⟨f1, f2.trans e2, f3.trans e3⟩

section
variable {C : Cf} {p q : Ps}
theorem Av.sub1 (t : Tr p q) : ∀ a o, p.H a = some o → ¬ Av C p.ow a → q.H a = some o := fun a o e n => t.same a o e fun i z => n (.inr ⟨i, z⟩)
theorem Av.sub2 (t : Tr p q) : ∀ a, p.H a ≠ none → ¬ Av C p.ow a → ¬ Av C q.ow a := fun a e n z => by
  rcases z with z | ⟨i, z⟩
  · exact n (.inl z)
  · rcases t.owns i a z with w | w
    · exact n (.inr w)
    · exact e w
theorem Den.go (t : Tr p q) {d : D} {v : V} (h : Den C.K p.H (Av C p.ow) d v) : Den C.K q.H (Av C q.ow) d v := Den.to (Av.sub1 t) (Av.sub2 t) d v h
theorem Dens.go (t : Tr p q) {d : List D} {v : List V} (h : Dens C.K p.H (Av C p.ow) d v) : Dens C.K q.H (Av C q.ow) d v := Dens.to (Av.sub1 t) (Av.sub2 t) d v h
theorem Rel.fresh (r : Rel C p) {a : Addr} (h : p.H a = none) : ¬ Av C p.ow a := fun z => by
  rcases z with z | ⟨i, z⟩
  · exact r.a0 a z h
  · have s := r.slot i
    cases e : p.env[i]? with
    | none => rw [e] at s; have s' : p.ow i = none := s; rw [s'] at z; cases z
    | some sl =>
      rw [e] at s
      cases sl with
      | no => have s' : p.ow i = none := s; rw [s'] at z; cases z
      | sh d => have s' := s.1; rw [s'] at z; cases z
      | ow d => obtain ⟨b, e1, _, e3, _⟩ := s; rw [e1] at z; cases z; exact e3.ne h
      | lk d => obtain ⟨b, e1, _, e3, _⟩ := s; rw [e1] at z; cases z; exact e3.ne h
      | io d => obtain ⟨b, e1, _, e3, _⟩ := s; rw [e1] at z; cases z; exact e3.ne h

/-- the heap grows, all that is tracked stays -/
theorem Rel.grow (r : Rel C p) {H' : Hp} (s : Same p.H H') : Rel C { p with H := H' } ∧ Tr p { p with H := H' } := by
  have t : Tr p { p with H := H' } := ⟨fun a o e _ => s a o e, fun i a e => .inl ⟨i, e⟩, fun a n z => n (s.free z), fun _ _ e => ⟨e, rfl, rfl⟩, fun d e => ⟨⟨d, e⟩, rfl, rfl⟩⟩
  refine ⟨⟨fun i => ?_, r.inj, r.own0, r.ownA, fun a o e n => s a o (r.keep a o e n), fun a z w => r.a0 a z (s.free w), r.len, fun a z w => r.ioH a z (s.free w)⟩, t⟩
  have h := r.slot i
  have hr : ∀ d a, Root C.K p.H (Av C p.ow) d a → Root C.K H' (Av C p.ow) d a := fun d a w => by
    refine w.to ?_ (fun a o e n => s a o e) fun a _ n => n
    cases e : p.H a with
    | none => exact absurd e w.ne
    | some o => exact s a o e
  show SlOk C { p with H := H' } i p.env[i]?
  cases e : p.env[i]? with
  | none => rw [e] at h; exact h
  | some sl =>
    rw [e] at h
    cases sl with
    | no => exact h
    | sh d => obtain ⟨h1, v, h2, h3⟩ := h; exact ⟨h1, v, h2, Den.go (C := C) t h3⟩
    | ow d => obtain ⟨a, h1, h2, h3, h4⟩ := h; exact ⟨a, h1, h2, hr _ _ h3, h4⟩
    | lk d => obtain ⟨a, h1, h2, h3, h4⟩ := h; exact ⟨a, h1, h2, hr _ _ h3, h4⟩
    | io d => obtain ⟨a, h1, h2, h3, h4⟩ := h; exact ⟨a, h1, h2, hr _ _ h3, h4⟩
end
end NL

/-! NL1: readings by the evaluator; names, constants, operators, calls of built-ins, tests, plain statements -/
namespace NL
open PySem PySem.Spec L2
open PyProof.Rows hiding St

inductive Rv where
  | val (d : D)
  | slot (i : Nat)
abbrev Sem := Env → Option (Rv × Env)
abbrev SemF := Env → Option (D × Env)
abbrev SemB := Env → Option (Bool × Env)
abbrev SemR := Env → Option (List Rv × Env)
inductive Out where
  | nx (e : Env)
  | rt (d : D) (e : Env)
  | bk (e : Env)
  | ct (e : Env)
abbrev SemS := Env → Option Out

def getS (env : Env) (i : Nat) : Option D :=
  match env[i]? with
  | some (.sh d) => some d
  | some (.ow d) => some d
  | some (.lk d) => some d
  | some (.io d) => some d
  | _ => none
def deref (env : Env) : Rv → Option D
  | .val d => some d
  | .slot i => getS env i
def derefs (env : Env) : List Rv → Option (List D)
  | [] => some []
  | r :: rs => (deref env r).bind fun d => (derefs env rs).bind fun ds => some (d :: ds)
def force (r : Rv) (env : Env) : Option (D × Env) :=
  match r with
  | .val d => some (d, env)
  | .slot i => match env[i]? with
    | some (.sh d) => some (d, env)
    | some (.ow d) => some (d, env.set i (.sh d))
    | _ => none
def forces : List Rv → Env → Option (List D × Env)
  | [], env => some ([], env)
  | r :: rs, env => (force r env).bind fun x => (forces rs x.2).bind fun y => some (x.1 :: y.1, y.2)

/-- what a reader of a value sees (an owned list may be read) -/
def BDen (K : Frag) (H : Hp) (A : Addr → Prop) (d : D) (v : V) : Prop :=
  match d with
  | .lst l => ∃ a xs, v = .ref a ∧ H a = some (.lst xs) ∧ Dens K H A l xs
  | .dK ks l => ∃ a kvs, v = .ref a ∧ H a = some (.dK kvs) ∧ kvs.map (·.1) = ks ∧ Dens K H A l (kvs.map (·.2))
  | .dT ks l => ∃ a kvs, v = .ref a ∧ H a = some (.dT kvs) ∧ kvs.map (·.1) = ks ∧ Dens K H A l (kvs.map (·.2))
  | d => Den K H A d v
theorem Den.b {K : Frag} {H : Hp} {A : Addr → Prop} {d : D} {v : V} (h : Den K H A d v) : BDen K H A d v := by
  cases d with
  | lst l =>
    rw [Den] at h
    obtain ⟨a, xs, e, t, n, r⟩ := h
    exact ⟨a, xs, e, t, r⟩
  | dK ks l => rw [Den] at h; obtain ⟨a, kvs, e, t, n, m, r⟩ := h; exact ⟨a, kvs, e, t, m, r⟩
  | dT ks l => rw [Den] at h; obtain ⟨a, kvs, e, t, n, m, r⟩ := h; exact ⟨a, kvs, e, t, m, r⟩
  | _ => exact h
theorem Root.b {K : Frag} {H : Hp} {A : Addr → Prop} {d : D} {a : Addr} (r : Root K H A d a) : BDen K H A d (.ref a) := by
  cases d with
  | lst l => obtain ⟨xs, e, q⟩ := r; exact ⟨a, xs, rfl, e, q⟩
  | dK ks l => obtain ⟨xs, e, m, q⟩ := r; exact ⟨a, xs, rfl, e, m, q⟩
  | dT ks l => obtain ⟨xs, e, m, q⟩ := r; exact ⟨a, xs, rfl, e, m, q⟩
  | _ => exact r.elim
def BDens (K : Frag) (H : Hp) (A : Addr → Prop) : List D → List V → Prop
  | [], xs => xs = []
  | d :: l, xs => ∃ x r, xs = x :: r ∧ BDen K H A d x ∧ BDens K H A l r

def RDen (C : Cf) (p : Ps) : Rv → V → Prop
  | .val d, v => Den C.K p.H (Av C p.ow) d v
  | .slot i, v => p.sg[i]? = some (some v)
def RDens (C : Cf) (p : Ps) : List Rv → List V → Prop
  | [], xs => xs = []
  | r :: l, xs => ∃ x t, xs = x :: t ∧ RDen C p r x ∧ RDens C p l t

section
variable {C : Cf} {p q : Ps}
theorem RDen.go (t : Tr p q) (hs : q.sg = p.sg) {r : Rv} {v : V} (h : RDen C p r v) : RDen C q r v := by
  cases r with
  | val d => exact Den.go t h
  | slot i => show q.sg[i]? = _; rw [hs]; exact h
theorem RDens.go (t : Tr p q) (hs : q.sg = p.sg) : ∀ {r : List Rv} {v : List V}, RDens C p r v → RDens C q r v
  | [], v, h => h
  | r :: rs, v, h => by
    obtain ⟨x, u, e, h1, h2⟩ := h
    exact ⟨x, u, e, h1.go t hs, RDens.go t hs h2⟩
theorem getS_ok (R : Rel C p) {i : Nat} {v : V} {d : D} (h : p.sg[i]? = some (some v)) (e : getS p.env i = some d) : BDen C.K p.H (Av C p.ow) d v := by
  have s := R.slot i
  unfold getS at e
  cases q : p.env[i]? with
  | none => rw [q] at e; cases e
  | some sl =>
    rw [q] at s e
    cases sl with
    | no => cases e
    | sh d' =>
      cases e
      obtain ⟨_, w, e1, e2⟩ := s
      rw [h] at e1; cases e1
      exact e2.b
    | ow d' => cases e; obtain ⟨a, _, e1, e2, _⟩ := s; rw [h] at e1; cases e1; exact e2.b
    | lk d' => cases e; obtain ⟨a, _, e1, e2, _⟩ := s; rw [h] at e1; cases e1; exact e2.b
    | io d' => cases e; obtain ⟨a, _, e1, e2, _⟩ := s; rw [h] at e1; cases e1; exact e2.b
theorem RDen.b (R : Rel C p) {r : Rv} {v : V} {d : D} (h : RDen C p r v) (e : deref p.env r = some d) : BDen C.K p.H (Av C p.ow) d v := by
  cases r with
  | val d' => cases e; exact Den.b h
  | slot i => exact getS_ok R h e
theorem RDens.b (R : Rel C p) : ∀ {r : List Rv} {v : List V} {ds : List D}, RDens C p r v → derefs p.env r = some ds → BDens C.K p.H (Av C p.ow) ds v
  | [], v, ds, h, e => by cases e; exact h
  | r :: rs, v, ds, h, e => by
    obtain ⟨x, u, e1, h1, h2⟩ := h
    obtain ⟨d, e3, e⟩ := Option.bind_eq_some_iff.mp e
    obtain ⟨ds', e4, e⟩ := Option.bind_eq_some_iff.mp e
    cases e
    exact ⟨x, u, e1, h1.b R e3, RDens.b R h2 e4⟩

/-- an owned slot is shared from here on -/
theorem share_ok (R : Rel C p) {i : Nat} {d : D} (e : p.env[i]? = some (.ow d)) :
    ∃ ow' a, Rel C { p with ow := ow', env := p.env.set i (.sh d) } ∧ Tr p { p with ow := ow', env := p.env.set i (.sh d) } ∧ p.sg[i]? = some (some (.ref a)) ∧ Den C.K p.H (Av C ow') d (.ref a) := by
  have s := R.slot i
  rw [e] at s
  obtain ⟨a, e1, e2, e3, e4⟩ := s
  have e1 : p.ow i = some a := e1
  have lt : i < p.env.length := (List.getElem?_eq_some_iff.mp e).1
  let ow' : Nat → Option Addr := fun j => if j = i then none else p.ow j
  have hsub : ∀ b, Av C ow' b → Av C p.ow b := fun b z => by
    rcases z with z | ⟨j, z⟩
    · exact .inl z
    · have z : (if j = i then none else p.ow j) = some b := z
      split at z
      · cases z
      · exact .inr ⟨j, z⟩
  have hna : ¬ Av C ow' a := fun z => by
    rcases z with z | ⟨j, z⟩
    · exact R.ownA i a e1 z
    · have z : (if j = i then none else p.ow j) = some a := z
      split at z
      · cases z
      · rename_i hj; exact hj (R.inj j i a z e1)
  have t : Tr p { p with ow := ow', env := p.env.set i (.sh d) } := by
    refine ⟨fun _ _ e _ => e, fun j b z => ?_, fun _ n => n, fun j d' z => ?_, fun d' z => ?_⟩
    · have z : (if j = i then none else p.ow j) = some b := z
      split at z
      · cases z
      · exact .inl ⟨j, z⟩
    · have hj : j ≠ i := by rintro rfl; rw [e] at z; cases z
      refine ⟨?_, ?_, rfl⟩
      · show (p.env.set i _)[j]? = _
        rw [List.getElem?_set_ne (Ne.symm hj)]; exact z
      · show (if j = i then none else p.ow j) = _
        rw [if_neg hj]
    · have hj : (0 : Nat) ≠ i := by rintro rfl; rw [e] at z; cases z
      refine ⟨⟨d', ?_⟩, ?_, rfl⟩
      · show (p.env.set i _)[0]? = _
        rw [List.getElem?_set_ne (Ne.symm hj)]; exact z
      · show (if 0 = i then none else p.ow 0) = _
        rw [if_neg hj]
  have hr : ∀ d b, Root C.K p.H (Av C p.ow) d b → Root C.K p.H (Av C ow') d b := fun d b w => w.to rfl (fun _ _ e _ => e) fun b _ n z => n (hsub b z)
  have dn : Den C.K p.H (Av C ow') d (.ref a) := (hr d a e3).den hna
  refine ⟨ow', a, ⟨fun j => ?_, fun j k b z1 z2 => ?_, fun j b z => ?_, fun j b z => ?_, R.keep, R.a0, by show (p.env.set i _).length ≤ _; rw [List.length_set]; exact R.len, R.ioH⟩, t, e2, dn⟩
  · show SlOk C _ j (p.env.set i (.sh d))[j]?
    by_cases hj : j = i
    · subst hj
      rw [List.getElem?_set_self lt]
      exact ⟨by show (if j = j then none else p.ow j) = none; rw [if_pos rfl], .ref a, e2, dn⟩
    · rw [List.getElem?_set_ne (Ne.symm hj)]
      have how : ow' j = p.ow j := by show (if j = i then none else p.ow j) = _; rw [if_neg hj]
      have s := R.slot j
      cases q : p.env[j]? with
      | none => rw [q] at s; exact how.trans s
      | some sl =>
        rw [q] at s
        cases sl with
        | no => exact how.trans s
        | sh d' => obtain ⟨s1, v, s2, s3⟩ := s; exact ⟨how.trans s1, v, s2, s3.less hsub⟩
        | ow d' => obtain ⟨b, s1, s2, s3, s4⟩ := s; exact ⟨b, how.trans s1, s2, hr _ _ s3, s4⟩
        | lk d' => obtain ⟨b, s1, s2, s3, s4⟩ := s; exact ⟨b, how.trans s1, s2, hr _ _ s3, s4⟩
        | io d' => obtain ⟨b, s1, s2, s3, s4⟩ := s; exact ⟨b, how.trans s1, s2, hr _ _ s3, s4⟩
  · have z1 : (if j = i then none else p.ow j) = some b := z1
    have z2 : (if k = i then none else p.ow k) = some b := z2
    split at z1
    · cases z1
    · split at z2
      · cases z2
      · exact R.inj j k b z1 z2
  · have z : (if j = i then none else p.ow j) = some b := z
    split at z
    · cases z
    · exact R.own0 j b z
  · have z : (if j = i then none else p.ow j) = some b := z
    split at z
    · cases z
    · exact R.ownA j b z
theorem force_ok (R : Rel C p) {r : Rv} {v : V} {d : D} {env' : Env} (h : RDen C p r v) (e : force r p.env = some (d, env')) :
    ∃ ow', Rel C { p with ow := ow', env := env' } ∧ Tr p { p with ow := ow', env := env' } ∧ Den C.K p.H (Av C ow') d v := by
  cases r with
  | val d' => cases e; exact ⟨p.ow, R, Tr.refl p, h⟩
  | slot i =>
    unfold force at e
    dsimp only at e
    cases q : p.env[i]? with
    | none => rw [q] at e; cases e
    | some sl =>
      rw [q] at e
      have h : p.sg[i]? = some (some v) := h
      cases sl with
      | sh d' =>
        cases e
        have s := R.slot i
        rw [q] at s
        obtain ⟨_, w, e1, e2⟩ := s
        rw [h] at e1; cases e1
        exact ⟨p.ow, R, Tr.refl p, e2⟩
      | ow d' =>
        cases e
        obtain ⟨ow', a, R', t, e1, dn⟩ := share_ok R q
        rw [h] at e1; cases e1
        exact ⟨ow', R', t, dn⟩
      | no => cases e
      | lk d' => cases e
      | io d' => cases e
theorem forces_ok : ∀ {r : List Rv} {p : Ps} {v : List V} {d : List D} {env' : Env}, Rel C p → RDens C p r v → forces r p.env = some (d, env') →
    ∃ ow', Rel C { p with ow := ow', env := env' } ∧ Tr p { p with ow := ow', env := env' } ∧ Dens C.K p.H (Av C ow') d v
  | [], p, v, d, env', R, h, e => by
    cases e
    have h : v = [] := h
    subst h
    exact ⟨p.ow, R, Tr.refl p, .nil⟩
  | r :: rs, p, v, d, env', R, h, e => by
    obtain ⟨x, u, rfl, h1, h2⟩ := h
    obtain ⟨⟨d1, env1⟩, e1, e⟩ := Option.bind_eq_some_iff.mp e
    obtain ⟨⟨ds, env2⟩, e2, e⟩ := Option.bind_eq_some_iff.mp e
    cases e
    obtain ⟨ow1, R1, t1, dn1⟩ := force_ok R h1 e1
    have h2' := RDens.go t1 rfl h2
    obtain ⟨ow2, R2, t2, dn2⟩ := forces_ok (p := { p with ow := ow1, env := env1 }) R1 h2' e2
    exact ⟨ow2, R2, t1.trans t2, .cons (Den.go (C := C) t2 dn1) dn2⟩
end

/-! ### readings -/
def tS (C : Cf) (m : Sem) : TE := fun sg H Q => ∃ ow env r env', m env = some (r, env') ∧ Rel C ⟨ow, sg, H, env⟩ ∧
  ∀ v H' ow', Rel C ⟨ow', sg, H', env'⟩ → Tr ⟨ow, sg, H, env⟩ ⟨ow', sg, H', env'⟩ → RDen C ⟨ow', sg, H', env'⟩ r v → Q v H'
def tT (C : Cf) (m : SemB) : TT := fun sg H Q => ∃ ow env b env', m env = some (b, env') ∧ Rel C ⟨ow, sg, H, env⟩ ∧
  ∀ H' ow', Rel C ⟨ow', sg, H', env'⟩ → Tr ⟨ow, sg, H, env⟩ ⟨ow', sg, H', env'⟩ → Q b H'
def tR (C : Cf) (m : SemR) : TA := fun sg H Q => ∃ ow env rs env', m env = some (rs, env') ∧ Rel C ⟨ow, sg, H, env⟩ ∧
  ∀ vs H' ow', Rel C ⟨ow', sg, H', env'⟩ → Tr ⟨ow, sg, H, env⟩ ⟨ow', sg, H', env'⟩ → RDens C ⟨ow', sg, H', env'⟩ rs vs → Q vs H'
def Cf.plus (C : Cf) (a : Addr) : Cf := { C with A0 := fun b => C.A0 b ∨ b = a }
/-- a new list (or dict) that nobody else holds -/
def tF (C : Cf) (m : SemF) : TE := fun sg H Q => ∃ ow env d env', m env = some (d, env') ∧ Rel C ⟨ow, sg, H, env⟩ ∧
  ∀ a H' ow', H a = none → Rel (C.plus a) ⟨ow', sg, H', env'⟩ → Tr ⟨ow, sg, H, env⟩ ⟨ow', sg, H', env'⟩ → Root C.K H' (Av (C.plus a) ow') d a → Q (.ref a) H'
def tSt (C : Cf) (m : SemS) : TS := fun D sg H => ∃ ow env o, m env = some o ∧ Rel C ⟨ow, sg, H, env⟩ ∧
  match o with
  | .nx env' => ∀ sg' H' ow', Rel C ⟨ow', sg', H', env'⟩ → Tr ⟨ow, sg, H, env⟩ ⟨ow', sg', H', env'⟩ → D.nx sg' H'
  | .bk env' => ∀ sg' H' ow', Rel C ⟨ow', sg', H', env'⟩ → Tr ⟨ow, sg, H, env⟩ ⟨ow', sg', H', env'⟩ → D.bk sg' H'
  | .ct env' => ∀ sg' H' ow', Rel C ⟨ow', sg', H', env'⟩ → Tr ⟨ow, sg, H, env⟩ ⟨ow', sg', H', env'⟩ → D.ct sg' H'
  | .rt d env' => ∀ v sg' H' ow', Rel C ⟨ow', sg', H', env'⟩ → Tr ⟨ow, sg, H, env⟩ ⟨ow', sg', H', env'⟩ → Den C.K H' (Av C ow') d v → D.rt v H'

section
variable {X : Cx} {C : Cf} {e a b : Expr} {pos : Pos} {t t' : TE} {m m1 m2 : Sem}
theorem peOf (h : PE X e t) (k : ∀ sg H Q, t' sg H Q → t sg H Q) : PE X e t' := ⟨fun pins s σ H Q I w => h.run pins s σ H Q I (k _ _ _ w)⟩
theorem ptOf {t t' : TT} (h : PT X e t) (k : ∀ sg H Q, t' sg H Q → t sg H Q) : PT X e t' := ⟨fun pins s σ H Q I w => h.run pins s σ H Q I (k _ _ _ w)⟩
theorem pwOf {t t' : TT} (h : PW X e t) (k : ∀ sg H Q, t' sg H Q → t sg H Q) : PW X e t' := ⟨fun wh pins s σ H Q I w => h.run wh pins s σ H Q I (k _ _ _ w)⟩
theorem paOf {es : List Expr} {t t' : TA} (h : PA X es t) (k : ∀ sg H Q, t' sg H Q → t sg H Q) : PA X es t' := ⟨fun pos pins s σ H Q I w => h.run pos pins s σ H Q I (k _ _ _ w)⟩
theorem psOf {st : Stmt} {t t' : TS} (h : PS X st t) (k : ∀ D sg H, t' D sg H → t D sg H) : PS X st t' := ⟨fun pins s σ H D I w => h.run pins s σ H D I (k _ _ _ w)⟩
theorem pssOf {st : List Stmt} {t t' : TS} (h : PSs X st t) (k : ∀ D sg H, t' D sg H → t D sg H) : PSs X st t' := ⟨fun pins s σ H D I w => h.run pins s σ H D I (k _ _ _ w)⟩

/-! ### names, constants -/
def sVar (i : Nat) : Sem := fun env => match env[i]? with
  | some (.sh d) => some (.val d, env)
  | some (.ow _) => some (.slot i, env)
  | some (.lk _) => some (.slot i, env)
  | some (.io _) => some (.slot i, env)
  | _ => none
theorem s_var {i : Nat} {x : Str} (hN : X.N[i]? = some x) (hv : Vis X.env.scope x) (hd : (x == ("__debug__" : Str)) = false) (hcd : (x == ("__classdict__" : Str)) = false) : PE X (.Name x pos) (tS C (sVar i)) := by
  refine peOf (pe_var hN hv hd hcd) fun sg H Q h => ?_
  obtain ⟨ow, env, r, env', e, R, k⟩ := h
  have s := R.slot i
  unfold sVar at e
  cases q : env[i]? with
  | none => rw [q] at e; cases e
  | some sl =>
    have s : SlOk C ⟨ow, sg, H, env⟩ i (some sl) := by rw [← q]; exact s
    rw [q] at e
    cases sl with
    | no => cases e
    | sh d => cases e; obtain ⟨_, v, e1, e2⟩ := s; exact ⟨v, e1, k v H ow R (Tr.refl _) e2⟩
    | ow d => cases e; obtain ⟨a, _, e1, e2, _⟩ := s; exact ⟨.ref a, e1, k _ H ow R (Tr.refl _) e1⟩
    | lk d => cases e; obtain ⟨a, _, e1, e2, _⟩ := s; exact ⟨.ref a, e1, k _ H ow R (Tr.refl _) e1⟩
    | io d => cases e; obtain ⟨a, _, e1, e2, _⟩ := s; exact ⟨.ref a, e1, k _ H ow R (Tr.refl _) e1⟩
def sC (d : D) : Sem := fun env => some (.val d, env)
theorem s_c {d : D} {v : V} (h : PE X e (tC v)) (hd : ∀ K H A, Den K H A d v) : PE X e (tS C (sC d)) := by
  refine peOf h fun sg H Q w => ?_
  obtain ⟨ow, env, r, env', e, R, k⟩ := w
  cases e
  exact k v H ow R (Tr.refl _) (hd _ _ _)
theorem s_int {i : Int} {j : Nat} : PE X (.Constant (.int i) j pos) (tS C (sC (.int i))) := s_c pe_int fun _ _ _ => by rw [Den]
theorem s_bl {i : Bool} {j : Nat} : PE X (.Constant (.bool i) j pos) (tS C (sC (.bl i))) := s_c pe_bl fun _ _ _ => by rw [Den]
theorem s_non {j : Nat} : PE X (.Constant .none j pos) (tS C (sC .non)) := s_c pe_non fun _ _ _ => by rw [Den]
theorem s_str {x : Str} {j : Nat} : PE X (.Constant (.str x) j pos) (tS C (sC (.str x))) := s_c pe_str fun _ _ _ => by rw [Den]

/-! ### operators by their rules -/
/-- g tells what the operation f gives on values -/
def OpB (X : Cx) (C : Cf) (f : Value → Value → PySem.Sem Value) (g : D → D → Option D) : Prop :=
  ∃ r : R2, OpR X f r ∧ ∀ (p : Ps) (d1 d2 d : D) (x y : V) (Q : VK), Rel C p → BDen C.K p.H (Av C p.ow) d1 x → BDen C.K p.H (Av C p.ow) d2 y → g d1 d2 = some d →
    (∀ v H', Same p.H H' → Den C.K H' (Av C p.ow) d v → Q v H') → r x y p.H Q
def sOp (g : D → D → Option D) (m1 m2 : Sem) : Sem := fun env => (m1 env).bind fun x => (m2 x.2).bind fun y => (deref y.2 x.1).bind fun d1 => (deref y.2 y.1).bind fun d2 => (g d1 d2).bind fun d => some (.val d, y.2)
theorem sOp_inv {g : D → D → Option D} {env env' : Env} {r : Rv} (e : sOp g m1 m2 env = some (r, env')) :
    ∃ r1 e1 r2 d1 d2 d, m1 env = some (r1, e1) ∧ m2 e1 = some (r2, env') ∧ deref env' r1 = some d1 ∧ deref env' r2 = some d2 ∧ g d1 d2 = some d ∧ r = .val d := by
  unfold sOp at e
  obtain ⟨⟨r1, e1⟩, h1, e⟩ := Option.bind_eq_some_iff.mp e
  obtain ⟨⟨r2, e2⟩, h2, e⟩ := Option.bind_eq_some_iff.mp e
  obtain ⟨d1, h3, e⟩ := Option.bind_eq_some_iff.mp e
  obtain ⟨d2, h4, e⟩ := Option.bind_eq_some_iff.mp e
  obtain ⟨d, h5, e⟩ := Option.bind_eq_some_iff.mp e
  cases e
  exact ⟨r1, e1, r2, d1, d2, d, h1, h2, h3, h4, h5, rfl⟩
/-- two operands in a row, then a rule on values -/
theorem op2 {r : R2} {g : D → D → Option D} (hr : ∀ (p : Ps) (d1 d2 d : D) (x y : V) (Q : VK), Rel C p → BDen C.K p.H (Av C p.ow) d1 x → BDen C.K p.H (Av C p.ow) d2 y → g d1 d2 = some d →
    (∀ v H', Same p.H H' → Den C.K H' (Av C p.ow) d v → Q v H') → r x y p.H Q) {sg : L2.St} {H : Hp} {Q : VK} (h : tS C (sOp g m1 m2) sg H Q) : tOp r (tS C m1) (tS C m2) sg H Q := by
  obtain ⟨ow, env, rr, env', e, R, k⟩ := h
  obtain ⟨r1, e1, r2, d1, d2, d, h1, h2, h3, h4, h5, rfl⟩ := sOp_inv e
  refine ⟨ow, env, r1, e1, h1, R, fun x H1 ow1 R1 T1 D1 => ⟨ow1, e1, r2, env', h2, R1, fun y H2 ow2 R2 T2 D2 => ?_⟩⟩
  refine hr ⟨ow2, sg, H2, env'⟩ d1 d2 d x y Q R2 ((D1.go T2 rfl).b R2 h3) (D2.b R2 h4) h5 fun v H3 s3 dv => ?_
  obtain ⟨R3, T3⟩ := R2.grow s3
  exact k v H3 ow2 R3 (T1.trans (T2.trans T3)) dv
theorem s_op {op : Operator} {g : D → D → Option D} (ho : OpB X C (binaryOp op) g) (ha : PE X a (tS C m1)) (hb : PE X b (tS C m2)) : PE X (.BinOp a op b pos) (tS C (sOp g m1 m2)) := by
  obtain ⟨r, hr, hq⟩ := ho
  exact peOf (pe_op hr ha hb) fun sg H Q h => op2 hq h
theorem s_cmp {op : CmpOp} {g : D → D → Option D} (ho : OpB X C (compareOp op) g) (ha : PE X a (tS C m1)) (hb : PE X b (tS C m2)) (hm : behindInMarks op b = false) : PE X (.Compare a [op] [b] pos) (tS C (sOp g m1 m2)) := by
  obtain ⟨r, hr, hq⟩ := ho
  exact peOf (pe_cmpR hr ha hb hm) fun sg H Q h => op2 hq h
/-- a value that is a bool, as a test -/
def sTB (m : Sem) : SemB := fun env => (m env).bind fun x => match x.1 with
  | .val (.bl b) => some (b, x.2)
  | _ => none
theorem sTB_inv {env env' : Env} {b : Bool} (e : sTB m env = some (b, env')) : m env = some (.val (.bl b), env') := by
  unfold sTB at e
  obtain ⟨⟨r, e1⟩, h1, e⟩ := Option.bind_eq_some_iff.mp e
  cases r with
  | slot i => cases e
  | val d =>
    cases d with
    | bl c => cases e; exact h1
    | _ => cases e
theorem t_tb {sg : L2.St} {H : Hp} {Q : Bool → Hp → Prop} (h : tT C (sTB m) sg H Q) : tTest (tS C m) sg H Q := by
  obtain ⟨ow, env, b, env', e, R, k⟩ := h
  refine ⟨ow, env, _, env', sTB_inv e, R, fun v H' ow' R' T' D' => ?_⟩
  have D' : Den C.K H' (Av C ow') (.bl b) v := D'
  rw [Den] at D'
  exact ⟨b, D', k H' ow' R' T'⟩
theorem s_tcmp {op : CmpOp} {g : D → D → Option D} (ho : OpB X C (compareOp op) g) (ha : PE X a (tS C m1)) (hb : PE X b (tS C m2)) (hm : behindInMarks op b = false) : PT X (.Compare a [op] [b] pos) (tT C (sTB (sOp g m1 m2))) := by
  obtain ⟨r, hr, hq⟩ := ho
  refine ptOf (pt_cmpR hr ha hb hm) fun sg H Q h => ?_
  exact op2 hq (t_tb h)
/-- a op b op' c -/
def sChain (g g' : D → D → Option D) (m1 m2 m3 : Sem) : Sem := fun env => (m1 env).bind fun x => (m2 x.2).bind fun y => (deref y.2 x.1).bind fun d1 => (deref y.2 y.1).bind fun d2 => match g d1 d2 with
  | some (.bl true) => (m3 y.2).bind fun z => (deref z.2 y.1).bind fun d2 => (deref z.2 z.1).bind fun d3 => (g' d2 d3).bind fun d => some (.val d, z.2)
  | some (.bl false) => some (.val (.bl false), y.2)
  | _ => none
theorem chain2 {c : Expr} {m3 : Sem} {r r' : R2} {g g' : D → D → Option D} (hr : ∀ (p : Ps) (d1 d2 d : D) (x y : V) (Q : VK), Rel C p → BDen C.K p.H (Av C p.ow) d1 x → BDen C.K p.H (Av C p.ow) d2 y → g d1 d2 = some d →
    (∀ v H', Same p.H H' → Den C.K H' (Av C p.ow) d v → Q v H') → r x y p.H Q)
    (hr' : ∀ (p : Ps) (d1 d2 d : D) (x y : V) (Q : VK), Rel C p → BDen C.K p.H (Av C p.ow) d1 x → BDen C.K p.H (Av C p.ow) d2 y → g' d1 d2 = some d →
    (∀ v H', Same p.H H' → Den C.K H' (Av C p.ow) d v → Q v H') → r' x y p.H Q) {sg : L2.St} {H : Hp} {Q : VK} (h : tS C (sChain g g' m1 m2 m3) sg H Q) : tChain r r' (tS C m1) (tS C m2) (tS C m3) sg H Q := by
  obtain ⟨ow, env, rr, env', e, R, k⟩ := h
  unfold sChain at e
  obtain ⟨⟨r1, e1⟩, h1, e⟩ := Option.bind_eq_some_iff.mp e
  obtain ⟨⟨r2, e2⟩, h2, e⟩ := Option.bind_eq_some_iff.mp e
  obtain ⟨d1, h3, e⟩ := Option.bind_eq_some_iff.mp e
  obtain ⟨d2, h4, e⟩ := Option.bind_eq_some_iff.mp e
  refine ⟨ow, env, r1, e1, h1, R, fun x H1 ow1 R1 T1 D1 => ⟨ow1, e1, r2, e2, h2, R1, fun y H2 ow2 R2 T2 D2 => ?_⟩⟩
  split at e
  · rename_i hg
    obtain ⟨⟨r3, e3⟩, h5, e⟩ := Option.bind_eq_some_iff.mp e
    obtain ⟨d2', h6, e⟩ := Option.bind_eq_some_iff.mp e
    obtain ⟨d3, h7, e⟩ := Option.bind_eq_some_iff.mp e
    obtain ⟨d, h8, e⟩ := Option.bind_eq_some_iff.mp e
    cases e
    refine hr ⟨ow2, sg, H2, e2⟩ d1 d2 _ x y _ R2 ((D1.go T2 rfl).b R2 h3) (D2.b R2 h4) hg fun v H3 s3 dv => ?_
    obtain ⟨R3, T3⟩ := R2.grow s3
    rw [Den] at dv
    refine ⟨true, dv, ?_⟩
    rw [if_pos rfl]
    refine ⟨ow2, e2, r3, _, h5, R3, fun w H4 ow4 R4 T4 D4 => ?_⟩
    refine hr' ⟨ow4, sg, H4, _⟩ d2' d3 d y w Q R4 ((D2.go (T3.trans T4) rfl).b R4 h6) (D4.b R4 h7) h8 fun v H5 s5 dv => ?_
    obtain ⟨R5, T5⟩ := R4.grow s5
    exact k v H5 ow4 R5 (T1.trans (T2.trans (T3.trans (T4.trans T5)))) dv
  · rename_i hg
    cases e
    refine hr ⟨ow2, sg, H2, e2⟩ d1 d2 _ x y _ R2 ((D1.go T2 rfl).b R2 h3) (D2.b R2 h4) hg fun v H3 s3 dv => ?_
    obtain ⟨R3, T3⟩ := R2.grow s3
    rw [Den] at dv
    refine ⟨false, dv, ?_⟩
    rw [if_neg Bool.false_ne_true]
    exact k _ H3 ow2 R3 (T1.trans (T2.trans T3)) (by show Den _ _ _ _ _; rw [Den])
  · cases e
theorem s_chain {c : Expr} {m3 : Sem} {op op' : CmpOp} {g g' : D → D → Option D} (ho : OpB X C (compareOp op) g) (ho' : OpB X C (compareOp op') g') (ha : PE X a (tS C m1)) (hb : PE X b (tS C m2)) (hc : PE X c (tS C m3)) (hm : lastMarks [op, op'] [b, c] = false) :
    PE X (.Compare a [op, op'] [b, c] pos) (tS C (sChain g g' m1 m2 m3)) := by
  obtain ⟨r, hr, hq⟩ := ho
  obtain ⟨r', hr', hq'⟩ := ho'
  exact peOf (pe_chain hr hr' ha hb hc hm) fun sg H Q h => chain2 (c := c) hq hq' h
theorem s_tchain {c : Expr} {m3 : Sem} {op op' : CmpOp} {g g' : D → D → Option D} (ho : OpB X C (compareOp op) g) (ho' : OpB X C (compareOp op') g') (ha : PE X a (tS C m1)) (hb : PE X b (tS C m2)) (hc : PE X c (tS C m3)) (hm : lastMarks [op, op'] [b, c] = false) :
    PT X (.Compare a [op, op'] [b, c] pos) (tT C (sTB (sChain g g' m1 m2 m3))) := by
  obtain ⟨r, hr, hq⟩ := ho
  obtain ⟨r', hr', hq'⟩ := ho'
  exact ptOf (pt_chain hr hr' ha hb hc hm) fun sg H Q h => chain2 (c := c) hq hq' (t_tb h)
/-- one operand -/
def UnB (X : Cx) (C : Cf) (f : Value → PySem.Sem Value) (g : D → Option D) : Prop :=
  ∃ r, UnR X f r ∧ ∀ (p : Ps) (d1 d : D) (x : V) (Q : VK), Rel C p → BDen C.K p.H (Av C p.ow) d1 x → g d1 = some d →
    (∀ v H', Same p.H H' → Den C.K H' (Av C p.ow) d v → Q v H') → r x p.H Q
def sUn (g : D → Option D) (m : Sem) : Sem := fun env => (m env).bind fun x => (deref x.2 x.1).bind fun d => (g d).bind fun d => some (.val d, x.2)
theorem s_un {op : UnaryOp} {g : D → Option D} (ho : UnB X C (unaryOp op) g) (ha : PE X a (tS C m)) : PE X (.UnaryOp op a pos) (tS C (sUn g m)) := by
  obtain ⟨r, hr, hq⟩ := ho
  refine peOf (pe_un hr ha) fun sg H Q h => ?_
  obtain ⟨ow, env, rr, env', e, R, k⟩ := h
  unfold sUn at e
  obtain ⟨⟨r1, e1⟩, h1, e⟩ := Option.bind_eq_some_iff.mp e
  obtain ⟨d1, h3, e⟩ := Option.bind_eq_some_iff.mp e
  obtain ⟨d, h5, e⟩ := Option.bind_eq_some_iff.mp e
  cases e
  refine ⟨ow, env, r1, _, h1, R, fun x H1 ow1 R1 T1 D1 => ?_⟩
  refine hq ⟨ow1, sg, H1, _⟩ d1 d x Q R1 (D1.b R1 h3) h5 fun v H3 s3 dv => ?_
  obtain ⟨R3, T3⟩ := R1.grow s3
  exact k v H3 ow1 R3 (T1.trans T3) dv

/-! ### arguments, calls of built-ins -/
def sNil : SemR := fun env => some ([], env)
def sCons (m : Sem) (ms : SemR) : SemR := fun env => (m env).bind fun x => (ms x.2).bind fun y => some (x.1 :: y.1, y.2)
theorem r_nil : PA X [] (tR C sNil) := by
  refine paOf pa_nil fun sg H Q h => ?_
  obtain ⟨ow, env, rs, env', e, R, k⟩ := h
  cases e
  exact k [] H ow R (Tr.refl _) rfl
theorem r_cons {es : List Expr} {ms : SemR} (ha : PE X e (tS C m)) (hr : PA X es (tR C ms)) (hs : starEach (e :: es) X.env = (false, eval e X.env) :: starEach es X.env) : PA X (e :: es) (tR C (sCons m ms)) := by
  refine paOf (pa_cons ha hr hs) fun sg H Q h => ?_
  obtain ⟨ow, env, rs, env', e, R, k⟩ := h
  unfold sCons at e
  obtain ⟨⟨r1, e1⟩, h1, e⟩ := Option.bind_eq_some_iff.mp e
  obtain ⟨⟨r2, e2⟩, h2, e⟩ := Option.bind_eq_some_iff.mp e
  cases e
  exact ⟨ow, env, r1, e1, h1, R, fun x H1 ow1 R1 T1 D1 => ⟨ow1, e1, r2, _, h2, R1, fun xs H2 ow2 R2 T2 D2 => k (x :: xs) H2 ow2 R2 (T1.trans T2) ⟨x, xs, rfl, D1.go T2 rfl, D2⟩⟩⟩
def CallB (X : Cx) (C : Cf) (f : Value) (g : List D → Option D) : Prop :=
  ∃ r, CallR X f r ∧ ∀ (p : Ps) (ds : List D) (d : D) (vs : List V) (Q : VK), Rel C p → BDens C.K p.H (Av C p.ow) ds vs → g ds = some d →
    (∀ v H', Same p.H H' → Den C.K H' (Av C p.ow) d v → Q v H') → r vs p.H Q
def sCallB (g : List D → Option D) (ms : SemR) : Sem := fun env => (ms env).bind fun x => (derefs x.2 x.1).bind fun ds => (g ds).bind fun d => some (.val d, x.2)
theorem callb {r : List V → Hp → VK → Prop} {g : List D → Option D} {ms : SemR} (hq : ∀ (p : Ps) (ds : List D) (d : D) (vs : List V) (Q : VK), Rel C p → BDens C.K p.H (Av C p.ow) ds vs → g ds = some d →
    (∀ v H', Same p.H H' → Den C.K H' (Av C p.ow) d v → Q v H') → r vs p.H Q) {sg : L2.St} {H : Hp} {Q : VK} (h : tS C (sCallB g ms) sg H Q) : tCB r (tR C ms) sg H Q := by
  obtain ⟨ow, env, rr, env', e, R, k⟩ := h
  unfold sCallB at e
  obtain ⟨⟨r1, e1⟩, h1, e⟩ := Option.bind_eq_some_iff.mp e
  obtain ⟨ds, h3, e⟩ := Option.bind_eq_some_iff.mp e
  obtain ⟨d, h5, e⟩ := Option.bind_eq_some_iff.mp e
  cases e
  refine ⟨ow, env, r1, _, h1, R, fun vs H1 ow1 R1 T1 D1 => ?_⟩
  refine hq ⟨ow1, sg, H1, _⟩ ds d vs Q R1 (D1.b R1 h3) h5 fun v H3 s3 dv => ?_
  obtain ⟨R3, T3⟩ := R1.grow s3
  exact k v H3 ow1 R3 (T1.trans T3) dv
theorem s_callB {x : Str} {p : Pos} {es : List Expr} {id : String} {g : List D → Option D} {ms : SemR} (hc : CallB X C (.builtin id) g) (hg : Gl X x) (hm : X.mg x = none) (hv : bootBuiltins x = some (.builtin id)) (ha : PA X (e :: es) (tR C ms))
    (hn : x ≠ "__name__") (hdb : (x == ("__debug__" : Str)) = false)
    (he : starEach (e :: es) X.env = (false, eval e X.env) :: starEach es X.env) (hpl : (backTo pos (starEach es X.env)).any (·.1) = false) : PE X (.Call (.Name x p) (e :: es) [] pos) (tS C (sCallB g ms)) := by
  obtain ⟨r, hr, hq⟩ := hc
  exact peOf (pe_callB hr hg hm hv ha hn hdb he hpl) fun sg H Q h => callb hq h
theorem s_callTy {x : Str} {p : Pos} {es : List Expr} {id : String} {g : List D → Option D} {ms : SemR} (hc : CallB X C (.type id) g) (hg : Gl X x) (hm : X.mg x = none) (hv : bootBuiltins x = some (.type id)) (ha : PA X (e :: es) (tR C ms))
    (hn : x ≠ "__name__") (hdb : (x == ("__debug__" : Str)) = false)
    (he : starEach (e :: es) X.env = (false, eval e X.env) :: starEach es X.env) (hpl : (backTo pos (starEach es X.env)).any (·.1) = false) : PE X (.Call (.Name x p) (e :: es) [] pos) (tS C (sCallB g ms)) := by
  obtain ⟨r, hr, hq⟩ := hc
  exact peOf (pe_callTy hr hg hm hv ha hn hdb he hpl) fun sg H Q h => callb hq h

/-! ### calls of defs -/
/-- what a def does with values; io: its first argument is a list that it changes -/
abbrev FnS := List D → Option D
abbrev FnI := D → List D → Option (D × D)
def spS (K : Frag) (n : Nat) (S : FnS) : Sp := fun vs H Q _ => ∃ (A : Addr → Prop) (ds : List D) (d : D), vs.length = n ∧ Dens K H A ds vs ∧ (∀ a, A a → H a ≠ none) ∧ S ds = some d ∧
  ∀ v H', Same H H' → Den K H' A d v → Q v H'
def spI (K : Frag) (n : Nat) (S : FnI) : Sp := fun vs H Q _ => ∃ (A : Addr → Prop) (a : Addr) (ws : List V) (d0 : D) (ds : List D) (d d1 : D), vs = .ref a :: ws ∧ vs.length = n ∧ A a ∧ Root K H A d0 a ∧ Dens K H A ds ws ∧ (∀ a, A a → H a ≠ none) ∧ S d0 ds = some (d, d1) ∧
  ∀ v H', (∀ b o, b ≠ a → H b = some o → H' b = some o) → Root K H' A d1 a → Den K H' A d v → Q v H'
def sCall (S : FnS) (ms : SemR) : Sem := fun env => (ms env).bind fun x => (forces x.1 x.2).bind fun y => (S y.1).bind fun d => some (.val d, y.2)
theorem s_call {x : Str} {p : Pos} {es : List Expr} {ms : SemR} {k n : Nat} {f : Addr} {fd : FuncData} {ps : List Str} {S : FnS} (hK : C.K = X.K) (F : FnOk X.prog X.w X.K X.mg X.base CX0 k f fd ps (spS X.K n S)) (hr : Room k X.A) (hg : Gl X x) (hm : X.mg x = some (.ref f))
    (hk : PySem.W.keepIn X.K (.ref f) = true) (hb : Binds X.K fd ps []) (ha : PA X (e :: es) (tR C ms)) (hn : (e :: es).length = n) (hdb : (x == ("__debug__" : Str)) = false)
    (he : starEach (e :: es) X.env = (false, eval e X.env) :: starEach es X.env) (hpl : (backTo pos (starEach es X.env)).any (·.1) = false)
    (hlen : ∀ env rs env', ms env = some (rs, env') → rs.length = n) : PE X (.Call (.Name x p) (e :: es) [] pos) (tS C (sCall S ms)) := by
  refine peOf (pe_call F hr hg hm hk hb .nil pass0 ha hdb he hpl (E := E0)) fun sg H Q h => ?_
  obtain ⟨ow, env, rr, env', e, R, k⟩ := h
  unfold sCall at e
  obtain ⟨⟨rs, e1⟩, h1, e⟩ := Option.bind_eq_some_iff.mp e
  obtain ⟨⟨ds, e2⟩, h3, e⟩ := Option.bind_eq_some_iff.mp e
  obtain ⟨d, h5, e⟩ := Option.bind_eq_some_iff.mp e
  cases e
  refine ⟨ow, env, rs, e1, h1, R, fun vs H1 ow1 R1 T1 D1 => ?_⟩
  obtain ⟨ow2, R2, T2, D2⟩ := forces_ok R1 D1 h3
  rw [List.append_nil]
  have hl : vs.length = n := by
    have l1 := hlen _ _ _ h1
    have : ∀ (rs : List Rv) (vs : List V), RDens C ⟨ow1, sg, H1, e1⟩ rs vs → vs.length = rs.length := by
      intro rs
      induction rs with
      | nil => intro vs h; rw [show vs = [] from h]; rfl
      | cons r rs ih => intro vs h; obtain ⟨x, t, rfl, _, h2⟩ := h; rw [List.length_cons, List.length_cons, ih t h2]
    rw [this rs vs D1, l1]
  refine ⟨Av C ow2, ds, d, hl, hK ▸ D2, fun a za zn => R2.fresh zn za, h5, fun v H' sm dv => ?_⟩
  obtain ⟨R3, T3⟩ := R2.grow sm
  exact k v H' ow2 R3 (T1.trans (T2.trans T3)) (show Den C.K H' (Av C ow2) d v from hK ▸ dv)

/-! ### tests -/
def truth : D → Option Bool
  | .non => some false
  | .bl b => some b
  | .int i => some (i != 0)
  | .str x => if x.length ≤ sizeLine then some ((x.length : Int) != 0) else none
  | .lst l => some (!l.isEmpty)
  | .tup l => some (!l.isEmpty)
  | .fl _ => none
  | .dK ks _ => some (!ks.isEmpty)
  | _ => none
theorem isEmpty_len {α β : Type} {l : List α} {m : List β} (h : l.length = m.length) : (!l.isEmpty) = !m.isEmpty := by
  cases l <;> cases m <;> simp_all
theorem truth_ok {K : Frag} {H : Hp} {A : Addr → Prop} {d : D} {v : V} {b : Bool} (h : BDen K H A d v) (e : truth d = some b) : TruV K v H b := by
  cases d with
  | non => cases e; have h : Den K H A .non v := h; rw [Den] at h; subst h; rfl
  | bl c => cases e; have h : Den K H A (.bl b) v := h; rw [Den] at h; subst h; rfl
  | int c => cases e; have h : Den K H A (.int c) v := h; rw [Den] at h; subst h; rfl
  | str c =>
    have h : Den K H A (.str c) v := h; rw [Den] at h; subst h
    unfold truth at e
    dsimp only at e
    split at e
    · rename_i hz; cases e; exact ⟨hz, rfl⟩
    · cases e
  | lst l => cases e; obtain ⟨a, xs, rfl, s, r⟩ := h; exact .inl ⟨xs, SqL.of s, isEmpty_len r.length⟩
  | tup l =>
    cases e
    have h : Den K H A (.tup l) v := h
    rw [Den] at h
    obtain ⟨a, xs, rfl, s, _, r⟩ := h
    exact .inr (.inl ⟨xs, SqT.of s, isEmpty_len r.length⟩)
  | dK ks l =>
    cases e
    obtain ⟨a, kvs, rfl, s, r, _⟩ := h
    refine .inr (.inr ⟨kvs, s, isEmpty_len ?_⟩)
    rw [← r, List.length_map]
  | ty n => cases e
  | fl l => cases e
  | dT ks l => cases e
def sTruth (m : Sem) : SemB := fun env => (m env).bind fun x => (deref x.2 x.1).bind fun d => (truth d).bind fun b => some (b, x.2)
theorem s_truth (hK : C.K = X.K) (ha : PE X a (tS C m)) (he : ∀ whole, isTrue a X.env whole = (do let v ← whole; standAt a.pos; holding [v] (truthy v))) : PT X a (tT C (sTruth m)) := by
  refine ptOf (pt_truth ha he) fun sg H Q h => ?_
  obtain ⟨ow, env, b, env', e, R, k⟩ := h
  unfold sTruth at e
  obtain ⟨⟨r1, e1⟩, h1, e⟩ := Option.bind_eq_some_iff.mp e
  obtain ⟨d, h3, e⟩ := Option.bind_eq_some_iff.mp e
  obtain ⟨b', h5, e⟩ := Option.bind_eq_some_iff.mp e
  cases e
  refine ⟨ow, env, r1, _, h1, R, fun v H1 ow1 R1 T1 D1 => ⟨_, ?_, k H1 ow1 R1 T1⟩⟩
  have z := truth_ok (D1.b R1 h3) h5
  rw [hK] at z
  exact z
def sAnd (a b : SemB) : SemB := fun env => (a env).bind fun x => if x.1 = true then b x.2 else some (false, x.2)
def sOr (a b : SemB) : SemB := fun env => (a env).bind fun x => if x.1 = true then some (true, x.2) else b x.2
def sNot (a : SemB) : SemB := fun env => (a env).bind fun x => some (!x.1, x.2)
variable {ma mb : SemB} {rest : List Expr}
theorem w_and1 (ha : PT X a (tT C ma)) : PW X (.BoolOp .And [a] pos) (tT C ma) := pw_and1 ha
theorem w_or1 (ha : PT X a (tT C ma)) : PW X (.BoolOp .Or [a] pos) (tT C ma) := pw_or1 ha
theorem w_and (ha : PT X a (tT C ma)) (hb : PW X (.BoolOp .And (b :: rest) pos) (tT C mb)) : PW X (.BoolOp .And (a :: b :: rest) pos) (tT C (sAnd ma mb)) := by
  refine pwOf (pw_and ha hb) fun sg H Q h => ?_
  obtain ⟨ow, env, c, env', e, R, k⟩ := h
  unfold sAnd at e
  obtain ⟨⟨c1, e1⟩, h1, e⟩ := Option.bind_eq_some_iff.mp e
  refine ⟨ow, env, c1, e1, h1, R, fun H1 ow1 R1 T1 => ?_⟩
  cases c1 with
  | true => rw [if_pos rfl] at e ⊢; exact ⟨ow1, e1, c, env', e, R1, fun H2 ow2 R2 T2 => k H2 ow2 R2 (T1.trans T2)⟩
  | false => rw [if_neg Bool.false_ne_true] at e ⊢; cases e; exact k H1 ow1 R1 T1
theorem w_or (ha : PT X a (tT C ma)) (hb : PW X (.BoolOp .Or (b :: rest) pos) (tT C mb)) : PW X (.BoolOp .Or (a :: b :: rest) pos) (tT C (sOr ma mb)) := by
  refine pwOf (pw_or ha hb) fun sg H Q h => ?_
  obtain ⟨ow, env, c, env', e, R, k⟩ := h
  unfold sOr at e
  obtain ⟨⟨c1, e1⟩, h1, e⟩ := Option.bind_eq_some_iff.mp e
  refine ⟨ow, env, c1, e1, h1, R, fun H1 ow1 R1 T1 => ?_⟩
  cases c1 with
  | true => rw [if_pos rfl] at e ⊢; cases e; exact k H1 ow1 R1 T1
  | false => rw [if_neg Bool.false_ne_true] at e ⊢; exact ⟨ow1, e1, c, env', e, R1, fun H2 ow2 R2 T2 => k H2 ow2 R2 (T1.trans T2)⟩
theorem s_not (ha : PT X a (tT C ma)) : PT X (.UnaryOp .Not a pos) (tT C (sNot ma)) := by
  refine ptOf (pt_not ha) fun sg H Q h => ?_
  obtain ⟨ow, env, c, env', e, R, k⟩ := h
  unfold sNot at e
  obtain ⟨⟨c1, e1⟩, h1, e⟩ := Option.bind_eq_some_iff.mp e
  cases e
  exact ⟨ow, env, c1, _, h1, R, fun H1 ow1 R1 T1 => k H1 ow1 R1 T1⟩
/-- the same as values: all but the last a bool -/
def sAndV (a b : Sem) : Sem := fun env => (a env).bind fun x => match x.1 with
  | .val (.bl true) => b x.2
  | .val (.bl false) => some (.val (.bl false), x.2)
  | _ => none
def sOrV (a b : Sem) : Sem := fun env => (a env).bind fun x => match x.1 with
  | .val (.bl true) => some (.val (.bl true), x.2)
  | .val (.bl false) => b x.2
  | _ => none
theorem s_one {op : BoolOp} (h : PE X a (tS C m)) : PE X (.BoolOp op [a] pos) (tS C m) := pe_one h
theorem s_andV (ha : PE X a (tS C m1)) (hb : PE X (.BoolOp .And (b :: rest) pos) (tS C m2)) : PE X (.BoolOp .And (a :: b :: rest) pos) (tS C (sAndV m1 m2)) := by
  refine peOf (pe_and ha hb) fun sg H Q h => ?_
  obtain ⟨ow, env, c, env', e, R, k⟩ := h
  unfold sAndV at e
  obtain ⟨⟨c1, e1⟩, h1, e⟩ := Option.bind_eq_some_iff.mp e
  refine ⟨ow, env, c1, e1, h1, R, fun v H1 ow1 R1 T1 D1 => ?_⟩
  dsimp only at e
  split at e
  · have D1 : Den C.K H1 (Av C ow1) (.bl true) v := D1
    rw [Den] at D1
    refine ⟨true, D1, ?_⟩
    rw [if_pos rfl]
    exact ⟨ow1, e1, c, env', e, R1, fun v2 H2 ow2 R2 T2 D2 => k v2 H2 ow2 R2 (T1.trans T2) D2⟩
  · have D1' : Den C.K H1 (Av C ow1) (.bl false) v := D1
    rw [Den] at D1'
    refine ⟨false, D1', ?_⟩
    rw [if_neg Bool.false_ne_true]
    cases e
    rw [← D1']
    exact k v H1 ow1 R1 T1 D1
  · cases e
theorem s_orV (ha : PE X a (tS C m1)) (hb : PE X (.BoolOp .Or (b :: rest) pos) (tS C m2)) : PE X (.BoolOp .Or (a :: b :: rest) pos) (tS C (sOrV m1 m2)) := by
  refine peOf (pe_or ha hb) fun sg H Q h => ?_
  obtain ⟨ow, env, c, env', e, R, k⟩ := h
  unfold sOrV at e
  obtain ⟨⟨c1, e1⟩, h1, e⟩ := Option.bind_eq_some_iff.mp e
  refine ⟨ow, env, c1, e1, h1, R, fun v H1 ow1 R1 T1 D1 => ?_⟩
  dsimp only at e
  split at e
  · have D1' : Den C.K H1 (Av C ow1) (.bl true) v := D1
    rw [Den] at D1'
    refine ⟨true, D1', ?_⟩
    rw [if_pos rfl]
    cases e
    rw [← D1']
    exact k v H1 ow1 R1 T1 D1
  · have D1 : Den C.K H1 (Av C ow1) (.bl false) v := D1
    rw [Den] at D1
    refine ⟨false, D1, ?_⟩
    rw [if_neg Bool.false_ne_true]
    exact ⟨ow1, e1, c, env', e, R1, fun v2 H2 ow2 R2 T2 D2 => k v2 H2 ow2 R2 (T1.trans T2) D2⟩
  · cases e
/-- not, of any value by its truth, as a value -/
def sIf (t : SemB) (a b : Sem) : Sem := fun env => (t env).bind fun x => if x.1 = true then a x.2 else b x.2
theorem s_if {c : Expr} (hc : PT X c (tT C ma)) (ha : PE X a (tS C m1)) (hb : PE X b (tS C m2)) : PE X (.IfExp c a b pos) (tS C (sIf ma m1 m2)) := by
  refine peOf (pe_ifExp hc ha hb) fun sg H Q h => ?_
  obtain ⟨ow, env, c, env', e, R, k⟩ := h
  unfold sIf at e
  obtain ⟨⟨c1, e1⟩, h1, e⟩ := Option.bind_eq_some_iff.mp e
  refine ⟨ow, env, c1, e1, h1, R, fun H1 ow1 R1 T1 => ?_⟩
  cases c1 with
  | true => rw [if_pos rfl] at e ⊢; exact ⟨ow1, e1, c, env', e, R1, fun v H2 ow2 R2 T2 D2 => k v H2 ow2 R2 (T1.trans T2) D2⟩
  | false => rw [if_neg Bool.false_ne_true] at e ⊢; exact ⟨ow1, e1, c, env', e, R1, fun v H2 ow2 R2 T2 D2 => k v H2 ow2 R2 (T1.trans T2) D2⟩
end
end NL

/-! NL2: what operators and built-ins give on values -/
namespace NL
open PySem PySem.Spec L2
open PyProof.Rows hiding St

section
variable {K : Frag} {H H' : Hp} {A : Addr → Prop} {v : V} {i : Int} {b : Bool} {x : Str} {l : List D}
theorem dInt : Den K H A (.int i) (.int i) := by rw [Den]
theorem dBl : Den K H A (.bl b) (.bl b) := by rw [Den]
theorem dStr : Den K H A (.str x) (.str x) := by rw [Den]
theorem dNon : Den K H A .non .non := by rw [Den]
theorem bInt (h : BDen K H A (.int i) v) : v = .int i := by have h : Den K H A (.int i) v := h; rwa [Den] at h
theorem bBl (h : BDen K H A (.bl b) v) : v = .bl b := by have h : Den K H A (.bl b) v := h; rwa [Den] at h
theorem bStr (h : BDen K H A (.str x) v) : v = .str x := by have h : Den K H A (.str x) v := h; rwa [Den] at h
theorem bNon (h : BDen K H A .non v) : v = .non := by have h : Den K H A .non v := h; rwa [Den] at h
theorem bTy {n : TyN} (h : BDen K H A (.ty n) v) : v = .ty n.name := by have h : Den K H A (.ty n) v := h; rwa [Den] at h
theorem bLst (h : BDen K H A (.lst l) v) : ∃ a xs, v = .ref a ∧ H a = some (.lst xs) ∧ Dens K H A l xs := h
theorem bFl (h : BDen K H A (.fl l) v) : ∃ a xs, v = .ref a ∧ SqL K H a xs ∧ Dens K H A l xs := by
  have h : Den K H A (.fl l) v := h
  rw [Den] at h
  obtain ⟨a, xs, e, s, r⟩ := h
  refine ⟨a, xs, e, ?_, r⟩
  rcases s with ⟨s, _⟩ | s
  · exact .inl s
  · exact .inr s
theorem bTupH (h : BDen K H A (.tup l) v) : ∃ a xs, v = .ref a ∧ H a = some (.tup xs) ∧ Dens K H A l xs := by
  have h : Den K H A (.tup l) v := h
  rw [Den] at h
  obtain ⟨a, xs, e, s, _, r⟩ := h
  exact ⟨a, xs, e, s, r⟩
theorem bTup (h : BDen K H A (.tup l) v) : ∃ a xs, v = .ref a ∧ SqT K H a xs ∧ Dens K H A l xs := by
  obtain ⟨a, xs, e, s, r⟩ := bTupH h
  exact ⟨a, xs, e, SqT.of s, r⟩
theorem bTupD (h : BDen K H A (.tup l) v) : Den K H A (.tup l) v := h
theorem same_upd {q : Addr} {o : HO} (h : H q = none) : Same H (upd H q o) := fun b x e => by
  rw [upd_ne (ne_of_none e h)]; exact e
end

section
variable {X : Cx} {C : Cf} {p : Ps}
theorem newL (R : Rel C p) {q : Addr} (hq : p.H q = none) {l : List D} {xs : List V} (d : Dens C.K p.H (Av C p.ow) l xs) :
    Same p.H (upd p.H q (.lst xs)) ∧ Den C.K (upd p.H q (.lst xs)) (Av C p.ow) (.lst l) (.ref q) := by
  have s : Same p.H (upd p.H q (.lst xs)) := same_upd hq
  obtain ⟨R2, T⟩ := R.grow s
  refine ⟨s, ?_⟩
  rw [Den]
  exact ⟨q, xs, rfl, upd_same, R.fresh hq, Dens.go (C := C) T d⟩
theorem newT (R : Rel C p) {q : Addr} (hq : p.H q = none) {l : List D} {xs : List V} (d : Dens C.K p.H (Av C p.ow) l xs) :
    Same p.H (upd p.H q (.tup xs)) ∧ Den C.K (upd p.H q (.tup xs)) (Av C p.ow) (.tup l) (.ref q) := by
  have s : Same p.H (upd p.H q (.tup xs)) := same_upd hq
  obtain ⟨R2, T⟩ := R.grow s
  refine ⟨s, ?_⟩
  rw [Den]
  exact ⟨q, xs, rfl, upd_same, R.fresh hq, Dens.go (C := C) T d⟩

/-! ### + - * // % ** << -/
def gAdd : D → D → Option D
  | .int a, .int b => some (.int (a + b))
  | .str a, .str b => if a.length + b.length ≤ sizeLine then some (.str (a ++ b)) else none
  | .lst a, .lst b => if a.length + b.length ≤ sizeLine then some (.lst (a ++ b)) else none
  | .tup a, .tup b => if a.length + b.length ≤ sizeLine then some (.tup (a ++ b)) else none
  | _, _ => none
theorem b_add (hK : C.K = X.K) : OpB X C (binaryOp .Add) gAdd := by
  refine ⟨_, op_add.or (op_add_str.or (op_cat.or op_catA)), fun p d1 d2 d x y Q R h1 h2 e k => ?_⟩
  unfold gAdd at e
  split at e
  · cases e; cases bInt h1; cases bInt h2
    exact .inl ⟨_, _, rfl, rfl, k _ _ (Same.refl _) dInt⟩
  · split at e
    · rename_i hz
      cases e; cases bStr h1; cases bStr h2
      exact .inr (.inl ⟨_, _, rfl, rfl, hz, k _ _ (Same.refl _) dStr⟩)
    · cases e
  · split at e
    · rename_i hz
      cases e
      obtain ⟨a1, xs, rfl, s1, r1⟩ := bLst h1
      obtain ⟨a2, ys, rfl, s2, r2⟩ := bLst h2
      refine .inr (.inr (.inl ⟨a1, a2, xs, ys, rfl, rfl, s1, s2, by rw [← r1.length, ← r2.length]; exact hz, fun q hq => ?_⟩))
      obtain ⟨s, dn⟩ := newL R hq (r1.append r2)
      exact k _ _ s dn
    · cases e
  · split at e
    · rename_i hz
      cases e
      obtain ⟨a1, xs, e1, s1, r1⟩ := bTup h1
      obtain ⟨a2, ys, e2, s2, r2⟩ := bTup h2
      subst e1 e2
      rw [hK] at s1 s2
      refine .inr (.inr (.inr ⟨a1, a2, xs, ys, rfl, rfl, s1, s2, by rw [← r1.length, ← r2.length]; exact hz, fun z => ?_, fun z1 z2 => ?_, fun z1 z2 q hq => ?_⟩))
      · subst z
        have : ∀ l : List D, Dens C.K p.H (Av C p.ow) l [] → l = [] := fun l h => List.eq_nil_of_length_eq_zero (by rw [h.length]; rfl)
        refine k _ _ (Same.refl _) ?_
        rw [this _ r1]
        exact bTupD h2
      · subst z2
        have : ∀ l : List D, Dens C.K p.H (Av C p.ow) l [] → l = [] := fun l h => List.eq_nil_of_length_eq_zero (by rw [h.length]; rfl)
        refine k _ _ (Same.refl _) ?_
        rw [this _ r2, List.append_nil]
        exact bTupD h1
      · obtain ⟨s, dn⟩ := newT R hq (r1.append r2)
        exact k _ _ s dn
    · cases e
  · cases e
def gSub : D → D → Option D
  | .int a, .int b => some (.int (a - b))
  | _, _ => none
theorem b_sub : OpB X C (binaryOp .Sub) gSub := by
  refine ⟨_, op_sub, fun p d1 d2 d x y Q R h1 h2 e k => ?_⟩
  unfold gSub at e
  split at e
  · cases e; cases bInt h1; cases bInt h2
    exact ⟨_, _, rfl, rfl, k _ _ (Same.refl _) dInt⟩
  · cases e
/-- two factors of together less than a million bits -/
def mulOk (a b : Int) : Bool := decide (a.natAbs.log2 + b.natAbs.log2 < 1000000)
def repD (l : List D) (k : Nat) : List D := (List.replicate k l).flatten
theorem Dens.rep {K : Frag} {H : Hp} {A : Addr → Prop} {l : List D} {xs : List V} (h : Dens K H A l xs) : ∀ k : Nat, Dens K H A (repD l k) (List.replicate k xs).flatten
  | 0 => .nil
  | k + 1 => by
    unfold repD
    rw [List.replicate_succ, List.replicate_succ, List.flatten_cons, List.flatten_cons]
    exact h.append (Dens.rep h k)
def gMul : D → D → Option D
  | .int a, .int b => if mulOk a b then some (.int (a * b)) else none
  | .lst l, .int k => if decide (-(2 ^ 63) ≤ k) && decide (k < 2 ^ 63) && decide (l.length * k.toNat ≤ sizeLine) then some (.lst (repD l k.toNat)) else none
  | .tup l, .int k => if decide (l.length ≠ 0) && decide (2 ≤ k) && decide (k ≤ 1000) && decide (l.length ≤ 1000) then some (.tup (repD l k.toNat)) else none
  | _, _ => none
theorem b_mul (hK : C.K = X.K) : OpB X C (binaryOp .Mult) gMul := by
  refine ⟨_, op_mulW.or (op_rep.or op_repT), fun p d1 d2 d x y Q R h1 h2 e k => ?_⟩
  unfold gMul at e
  split at e
  · split at e
    · rename_i hz
      cases e; cases bInt h1; cases bInt h2
      exact .inl ⟨_, _, rfl, rfl, (by unfold mulOk at hz; simpa using hz : _ + _ < 1000000), k _ _ (Same.refl _) dInt⟩
    · cases e
  · split at e
    · rename_i hz
      simp only [Bool.and_eq_true, decide_eq_true_eq] at hz
      cases e; cases bInt h2
      obtain ⟨a1, xs, rfl, s1, r1⟩ := bLst h1
      refine .inr (.inl ⟨a1, _, xs, rfl, rfl, s1, hz.1.1, hz.1.2, by rw [← r1.length]; exact hz.2, fun q hq => ?_⟩)
      obtain ⟨s, dn⟩ := newL R hq (r1.rep _)
      exact k _ _ s dn
    · cases e
  · split at e
    · rename_i hz
      simp only [Bool.and_eq_true, decide_eq_true_eq] at hz
      cases e; cases bInt h2
      obtain ⟨a1, xs, e1, s1, r1⟩ := bTup h1
      subst e1
      rw [hK] at s1
      refine .inr (.inr ⟨a1, _, xs, rfl, rfl, s1, fun z => ?_, hz.1.1.2, hz.1.2, by rw [← r1.length]; exact hz.2, fun q hq => ?_⟩)
      · subst z; exact hz.1.1.1 r1.length
      · obtain ⟨s, dn⟩ := newT R hq (r1.rep _)
        exact k _ _ s dn
    · cases e
  · cases e
def divOk (b : Int) : Bool := decide (0 < b) && decide (b.natAbs.log2 < 9000)
def gDiv : D → D → Option D
  | .int a, .int b => if divOk b then some (.int (a / b)) else if decide (b < 0) && decide (b.natAbs < 1073741824) then some (.int (a.fdiv b)) else none
  | _, _ => none
theorem b_div : OpB X C (binaryOp .FloorDiv) gDiv := by
  refine ⟨_, op_fdivW.or op_fdivN, fun p d1 d2 d x y Q R h1 h2 e k => ?_⟩
  unfold gDiv at e
  split at e
  · cases bInt h1; cases bInt h2
    split at e
    · rename_i hz
      unfold divOk at hz
      simp only [Bool.and_eq_true, decide_eq_true_eq] at hz
      cases e
      exact .inl ⟨_, _, rfl, rfl, hz, k _ _ (Same.refl _) dInt⟩
    · split at e
      · rename_i hz
        simp only [Bool.and_eq_true, decide_eq_true_eq] at hz
        cases e
        exact .inr ⟨_, _, rfl, rfl, ⟨by omega, hz.2⟩, k _ _ (Same.refl _) dInt⟩
      · cases e
  · cases e
def gMod : D → D → Option D
  | .int a, .int b => if decide (0 < b) then some (.int (a % b)) else if decide (b < 0) then some (.int (a.fmod b)) else none
  | _, _ => none
theorem b_mod : OpB X C (binaryOp .Mod) gMod := by
  refine ⟨_, op_mod.or op_modN, fun p d1 d2 d x y Q R h1 h2 e k => ?_⟩
  unfold gMod at e
  split at e
  · cases bInt h1; cases bInt h2
    split at e
    · rename_i hz
      cases e
      exact .inl ⟨_, _, rfl, rfl, of_decide_eq_true hz, k _ _ (Same.refl _) dInt⟩
    · split at e
      · rename_i hz
        have hz := of_decide_eq_true hz
        cases e
        exact .inr ⟨_, _, rfl, rfl, (by omega), k _ _ (Same.refl _) dInt⟩
      · cases e
  · cases e
def powOk (i j : Int) : Bool := decide (0 ≤ j) && decide (j ≤ 1000000) && decide (i.natAbs < 2 ^ 64)
def gPow : D → D → Option D
  | .int a, .int b => if powOk a b then some (.int (a ^ b.toNat)) else none
  | _, _ => none
theorem b_pow : OpB X C (binaryOp .Pow) gPow := by
  refine ⟨_, op_pow, fun p d1 d2 d x y Q R h1 h2 e k => ?_⟩
  unfold gPow at e
  split at e
  · cases bInt h1; cases bInt h2
    split at e
    · rename_i hz
      unfold powOk at hz
      simp only [Bool.and_eq_true, decide_eq_true_eq] at hz
      cases e
      exact ⟨_, _, rfl, rfl, ⟨hz.1.1, hz.1.2, hz.2⟩, k _ _ (Same.refl _) dInt⟩
    · cases e
  · cases e
def gShl : D → D → Option D
  | .int a, .int b => if powOk a b then some (.int (a * 2 ^ b.toNat)) else none
  | _, _ => none
theorem b_shl : OpB X C (binaryOp .LShift) gShl := by
  refine ⟨_, op_shl, fun p d1 d2 d x y Q R h1 h2 e k => ?_⟩
  unfold gShl at e
  split at e
  · cases bInt h1; cases bInt h2
    split at e
    · rename_i hz
      unfold powOk at hz
      simp only [Bool.and_eq_true, decide_eq_true_eq] at hz
      cases e
      exact ⟨_, _, rfl, rfl, ⟨hz.1.1, hz.1.2, hz.2⟩, k _ _ (Same.refl _) dInt⟩
    · cases e
  · cases e
def gNeg : D → Option D
  | .int a => some (.int (-a))
  | _ => none
theorem b_neg : UnB X C (unaryOp .USub) gNeg := by
  refine ⟨_, un_neg, fun p d1 d x Q R h1 e k => ?_⟩
  unfold gNeg at e
  split at e
  · cases e; cases bInt h1
    exact ⟨_, rfl, k _ _ (Same.refl _) dInt⟩
  · cases e

/-! ### == != < <= > >= -/
mutual
def toP : D → Option PyData
  | .non => some .none
  | .bl b => some (.bool b)
  | .int i => some (.int i)
  | .str x => some (.str x)
  | .tup l => (toPs l).bind fun x => some (.tuple x)
  | .lst l => (toPs l).bind fun x => some (.list x)
  | .fl l => (toPs l).bind fun x => some (.list x)
  | _ => none
def toPs : List D → Option (List PyData)
  | [] => some []
  | d :: l => (toP d).bind fun x => (toPs l).bind fun y => some (x :: y)
end
section
variable {K : Frag} {H : Hp} {A : Addr → Prop}
mutual
theorem toP_ok : ∀ (d : D) (v : V) (q : PyData), Den K H A d v → toP d = some q → Dp K H v q
  | .non, v, q, h, e => by rw [Den] at h; rw [toP] at e; cases e; subst h; exact .non
  | .bl b, v, q, h, e => by rw [Den] at h; rw [toP] at e; cases e; subst h; exact .bl b
  | .int i, v, q, h, e => by rw [Den] at h; rw [toP] at e; cases e; subst h; exact .int i
  | .str x, v, q, h, e => by rw [Den] at h; rw [toP] at e; cases e; subst h; exact .str x
  | .tup l, v, q, h, e => by
    obtain ⟨a, xs, e1, s, r⟩ := bTup h.b
    rw [toP] at e
    obtain ⟨y, e2, e⟩ := Option.bind_eq_some_iff.mp e
    cases e
    subst e1
    exact .tup s (toPs_ok l xs y r e2)
  | .lst l, v, q, h, e => by
    obtain ⟨a, xs, e1, s, r⟩ := bLst h.b
    rw [toP] at e
    obtain ⟨y, e2, e⟩ := Option.bind_eq_some_iff.mp e
    cases e
    subst e1
    exact .lst (SqL.of s) (toPs_ok l xs y r e2)
  | .fl l, v, q, h, e => by
    obtain ⟨a, xs, e1, s, r⟩ := bFl h.b
    rw [toP] at e
    obtain ⟨y, e2, e⟩ := Option.bind_eq_some_iff.mp e
    cases e
    subst e1
    exact .lst s (toPs_ok l xs y r e2)
  | .ty n, v, q, h, e => by rw [toP] at e <;> first | cases e | (intros; contradiction)
  | .dK ks l, v, q, h, e => by rw [toP] at e <;> first | cases e | (intros; contradiction)
  | .dT ks l, v, q, h, e => by rw [toP] at e <;> first | cases e | (intros; contradiction)
theorem toPs_ok : ∀ (d : List D) (v : List V) (q : List PyData), Dens K H A d v → toPs d = some q → DpAll K H v q
  | [], v, q, h, e => by rw [Dens] at h; rw [toPs] at e; cases e; subst h; exact .nil
  | d :: l, v, q, h, e => by
    rw [Dens] at h
    obtain ⟨x, r, e1, h1, h2⟩ := h
    rw [toPs] at e
    obtain ⟨y, e2, e⟩ := Option.bind_eq_some_iff.mp e
    obtain ⟨z, e3, e⟩ := Option.bind_eq_some_iff.mp e
    cases e
    subst e1
    exact .cons (toP_ok d x y h1 e2) (toPs_ok l r z h2 e3)
end
theorem toP_okB {d : D} {v : V} {q : PyData} (h : BDen K H A d v) (e : toP d = some q) : Dp K H v q := by
  cases d with
  | lst l =>
    obtain ⟨a, xs, e1, s, r⟩ := h
    rw [toP] at e
    obtain ⟨y, e2, e⟩ := Option.bind_eq_some_iff.mp e
    cases e
    subst e1
    exact .lst (SqL.of s) (toPs_ok l xs y r e2)
  | dK ks l => rw [toP] at e <;> first | cases e | (intros; contradiction)
  | dT ks l => rw [toP] at e <;> first | cases e | (intros; contradiction)
  | _ => exact toP_ok _ v q h e
end
def dEq (a b : D) : Option Bool :=
  match a, b with
  | .int i, .int j => some (i == j)
  | a, b => (toP a).bind fun x => (toP b).bind fun y => if SeqAt.shaped x && SeqAt.shaped y then some (PyData.eqv x y) else none
theorem dEq_ok {K : Frag} {H : Hp} {A : Addr → Prop} {a b : D} {x y : V} {c : Bool} (h1 : BDen K H A a x) (h2 : BDen K H A b y) (e : dEq a b = some c) :
    ∃ d e, Dp K H x d ∧ Dp K H y e ∧ SeqAt.shaped d = true ∧ SeqAt.shaped e = true ∧ c = PyData.eqv d e := by
  have gen : ((toP a).bind fun x => (toP b).bind fun y => if SeqAt.shaped x && SeqAt.shaped y then some (PyData.eqv x y) else none) = some c → ∃ d e, Dp K H x d ∧ Dp K H y e ∧ SeqAt.shaped d = true ∧ SeqAt.shaped e = true ∧ c = PyData.eqv d e := fun e => by
    obtain ⟨d, e1, e⟩ := Option.bind_eq_some_iff.mp e
    obtain ⟨f, e2, e⟩ := Option.bind_eq_some_iff.mp e
    split at e
    · rename_i hs
      rw [Bool.and_eq_true] at hs
      cases e
      exact ⟨d, f, toP_okB h1 e1, toP_okB h2 e2, hs.1, hs.2, rfl⟩
    · cases e
  unfold dEq at e
  split at e
  · rename_i i j
    cases e
    exact ⟨.int i, .int j, toP_okB h1 (by rw [toP]), toP_okB h2 (by rw [toP]), rfl, rfl, by rw [PyData.eqv]⟩
  · exact gen e
def gEq (a b : D) : Option D := (dEq a b).bind fun c => some (.bl c)
def gNe (a b : D) : Option D := (dEq a b).bind fun c => some (.bl (!c))
theorem b_eq (hK : C.K = X.K) (hu : X.A.units + 64 < cLine) : OpB X C (compareOp .Eq) gEq := by
  refine ⟨_, op_eqD hu, fun p d1 d2 d x y Q R h1 h2 e k => ?_⟩
  obtain ⟨c, e1, e⟩ := Option.bind_eq_some_iff.mp e
  cases e
  rw [hK] at h1 h2
  obtain ⟨d, f, a1, a2, a3, a4, rfl⟩ := dEq_ok h1 h2 e1
  exact ⟨d, f, a1, a2, a3, a4, k _ _ (Same.refl _) dBl⟩
theorem b_ne (hK : C.K = X.K) (hu : X.A.units + 64 < cLine) : OpB X C (compareOp .NotEq) gNe := by
  refine ⟨_, op_neD hu, fun p d1 d2 d x y Q R h1 h2 e k => ?_⟩
  obtain ⟨c, e1, e⟩ := Option.bind_eq_some_iff.mp e
  cases e
  rw [hK] at h1 h2
  obtain ⟨d, f, a1, a2, a3, a4, rfl⟩ := dEq_ok h1 h2 e1
  exact ⟨d, f, a1, a2, a3, a4, k _ _ (Same.refl _) dBl⟩
/-- a tuple's (list's) ints -/
def asInts : List D → Option (List Int)
  | [] => some []
  | .int i :: l => (asInts l).bind fun r => some (i :: r)
  | _ => none
theorem asInts_ok {K : Frag} {H : Hp} {A : Addr → Prop} : ∀ {l : List D} {xs : List V} {ns : List Int}, Dens K H A l xs → asInts l = some ns → xs = ns.map V.int
  | [], xs, ns, h, e => by rw [Dens] at h; cases e; rw [h]; rfl
  | d :: l, xs, ns, h, e => by
    rw [Dens] at h
    obtain ⟨x, r, e1, h1, h2⟩ := h
    cases d with
    | int i =>
      unfold asInts at e
      obtain ⟨r', e2, e⟩ := Option.bind_eq_some_iff.mp e
      cases e
      rw [Den] at h1
      rw [e1, h1, asInts_ok h2 e2]
      rfl
    | _ => cases e
def gLt : D → D → Option D
  | .int a, .int b => some (.bl (decide (a < b)))
  | .str a, .str b => some (.bl (decide (a.cps.toList < b.cps.toList)))
  | .tup a, .tup b => (asInts a).bind fun x => (asInts b).bind fun y => some (.bl (HT.lexLt x y))
  | _, _ => none
theorem b_lt (hK : C.K = X.K) (hu : X.A.units < cLine) : OpB X C (compareOp .Lt) gLt := by
  refine ⟨_, op_lt.or (op_lt_str.or (op_ltT hu)), fun p d1 d2 d x y Q R h1 h2 e k => ?_⟩
  unfold gLt at e
  split at e
  · cases e; cases bInt h1; cases bInt h2
    exact .inl ⟨_, _, rfl, rfl, k _ _ (Same.refl _) dBl⟩
  · cases e; cases bStr h1; cases bStr h2
    exact .inr (.inl ⟨_, _, rfl, rfl, k _ _ (Same.refl _) dBl⟩)
  · obtain ⟨n1, e1, e⟩ := Option.bind_eq_some_iff.mp e
    obtain ⟨n2, e2, e⟩ := Option.bind_eq_some_iff.mp e
    cases e
    obtain ⟨a1, xs, f1, s1, r1⟩ := bTup h1
    obtain ⟨a2, ys, f2, s2, r2⟩ := bTup h2
    subst f1 f2
    rw [hK] at s1 s2
    rw [asInts_ok r1 e1] at s1
    rw [asInts_ok r2 e2] at s2
    exact .inr (.inr ⟨a1, a2, n1, n2, rfl, rfl, s1, s2, k _ _ (Same.refl _) dBl⟩)
  · cases e
def gLe : D → D → Option D
  | .int a, .int b => some (.bl (decide (a ≤ b)))
  | _, _ => none
theorem b_le : OpB X C (compareOp .LtE) gLe := by
  refine ⟨_, op_le, fun p d1 d2 d x y Q R h1 h2 e k => ?_⟩
  unfold gLe at e
  split at e
  · cases e; cases bInt h1; cases bInt h2
    exact ⟨_, _, rfl, rfl, k _ _ (Same.refl _) dBl⟩
  · cases e
def gGt : D → D → Option D
  | .int a, .int b => some (.bl (decide (b < a)))
  | _, _ => none
theorem b_gt : OpB X C (compareOp .Gt) gGt := by
  refine ⟨_, op_gt, fun p d1 d2 d x y Q R h1 h2 e k => ?_⟩
  unfold gGt at e
  split at e
  · cases e; cases bInt h1; cases bInt h2
    exact ⟨_, _, rfl, rfl, k _ _ (Same.refl _) dBl⟩
  · cases e
def gGe : D → D → Option D
  | .int a, .int b => some (.bl (decide (b ≤ a)))
  | _, _ => none
theorem b_ge : OpB X C (compareOp .GtE) gGe := by
  refine ⟨_, op_ge, fun p d1 d2 d x y Q R h1 h2 e k => ?_⟩
  unfold gGe at e
  split at e
  · cases e; cases bInt h1; cases bInt h2
    exact ⟨_, _, rfl, rfl, k _ _ (Same.refl _) dBl⟩
  · cases e
/-- is None -/
def dNone : D → Bool
  | .non => true
  | _ => false
theorem dNone_ok {K : Frag} {H : Hp} {A : Addr → Prop} {d : D} {v : V} (h : BDen K H A d v) : decide (v = .non) = dNone d := by
  cases d with
  | non => rw [bNon h]; rfl
  | bl b => rw [bBl h]; rfl
  | int i => rw [bInt h]; rfl
  | str x => rw [bStr h]; rfl
  | ty n => rw [bTy h]; rfl
  | tup l => obtain ⟨a, xs, e, _⟩ := bTup h; rw [e]; rfl
  | lst l => obtain ⟨a, xs, e, _⟩ := bLst h; rw [e]; rfl
  | fl l => obtain ⟨a, xs, e, _⟩ := bFl h; rw [e]; rfl
  | dK ks l => obtain ⟨a, xs, e, _⟩ := h; rw [e]; rfl
  | dT ks l => obtain ⟨a, xs, e, _⟩ := h; rw [e]; rfl
def gIs : D → D → Option D
  | a, .non => some (.bl (dNone a))
  | .bl a, .bl b => some (.bl (a == b))
  | _, _ => none
def gIsNot : D → D → Option D
  | a, .non => some (.bl (!dNone a))
  | .bl a, .bl b => some (.bl (!(a == b)))
  | _, _ => none
theorem b_is : OpB X C (compareOp .Is) gIs := by
  refine ⟨_, op_isN.or op_isBl, fun p d1 d2 d x y Q R h1 h2 e k => ?_⟩
  unfold gIs at e
  split at e
  · cases e
    refine .inl ⟨bNon h2, ?_⟩
    rw [dNone_ok h1]
    exact k _ _ (Same.refl _) dBl
  · cases e
    refine .inr ⟨_, _, bBl h1, bBl h2, ?_⟩
    rw [← Bool.beq_eq_decide_eq]
    exact k _ _ (Same.refl _) dBl
  · cases e
theorem b_isNot : OpB X C (compareOp .IsNot) gIsNot := by
  refine ⟨_, op_notN.or op_notBl, fun p d1 d2 d x y Q R h1 h2 e k => ?_⟩
  unfold gIsNot at e
  split at e
  · cases e
    refine .inl ⟨bNon h2, ?_⟩
    rw [dNone_ok h1]
    exact k _ _ (Same.refl _) dBl
  · cases e
    refine .inr ⟨_, _, bBl h1, bBl h2, ?_⟩
    rw [← Bool.beq_eq_decide_eq]
    exact k _ _ (Same.refl _) dBl
  · cases e
end
end NL

/-! NL3: displays, stores, statements, loops -/
namespace NL
open PySem PySem.Spec L2
open PyProof.Rows hiding St

section
variable {C : Cf} {p q : Ps}
/-! ### a value nobody else holds -/
/-- slots by a change of heap and of what is to be avoided -/
theorem slots_to {C' : Cf} {H' : Hp} (hK : C'.K = C.K) (hio : C'.io = C.io) (R : Rel C p) (h0 : ∀ i a, p.ow i = some a → H' a = p.H a) (h1 : ∀ a o, p.H a = some o → ¬ Av C p.ow a → H' a = some o)
    (h2 : ∀ a, p.H a ≠ none → ¬ Av C p.ow a → ¬ Av C' p.ow a) : ∀ i, SlOk C' { p with H := H' } i p.env[i]? := fun i => by
  have s := R.slot i
  cases e : p.env[i]? with
  | none => rw [e] at s; exact s
  | some sl =>
    rw [e] at s
    cases sl with
    | no => exact s
    | sh d => obtain ⟨g1, v, g2, g3⟩ := s; exact ⟨g1, v, g2, hK ▸ Den.to h1 h2 d v g3⟩
    | ow d => obtain ⟨b, g1, g2, g3, g4⟩ := s; exact ⟨b, g1, g2, hK ▸ g3.to (h0 i b g1) h1 h2, hio ▸ g4⟩
    | lk d => obtain ⟨b, g1, g2, g3, g4⟩ := s; exact ⟨b, g1, g2, hK ▸ g3.to (h0 i b g1) h1 h2, hio ▸ g4⟩
    | io d => obtain ⟨b, g1, g2, g3, g4⟩ := s; exact ⟨b, g1, g2, hK ▸ g3.to (h0 i b g1) h1 h2, hio ▸ g4⟩
theorem Rel.unplus {a : Addr} (R : Rel (C.plus a) p) : Rel C p where
  slot := slots_to (C := C.plus a) (C' := C) rfl rfl R (fun _ _ _ => rfl) (fun _ _ e _ => e) fun b _ n z => n (z.elim (fun z => .inl (.inl z)) .inr)
  inj := R.inj
  own0 := R.own0
  ownA := fun i b e z => R.ownA i b e (.inl z)
  keep := R.keep
  a0 := fun b z => R.a0 b (.inl z)
  len := R.len
  ioH := R.ioH
theorem Rel.rootNe (R : Rel C p) {i : Nat} {a : Addr} (e : p.ow i = some a) : p.H a ≠ none := fun h => (R.fresh h) (.inr ⟨i, e⟩)
/-- the heap grows by a new object at a, which is to be avoided from now on -/
theorem Rel.newAt (R : Rel C p) {a : Addr} (o : HO) (ha : p.H a = none) : Rel (C.plus a) { p with H := upd p.H a o } ∧ Tr p { p with H := upd p.H a o } ∧
    ∀ (d : D) (v : V), Den C.K p.H (Av C p.ow) d v → Den C.K (upd p.H a o) (Av (C.plus a) p.ow) d v := by
  have s : Same p.H (upd p.H a o) := same_upd ha
  obtain ⟨_, T⟩ := R.grow s
  have h1 : ∀ b u, p.H b = some u → ¬ Av C p.ow b → upd p.H a o b = some u := fun b u e _ => s b u e
  have h2 : ∀ b, p.H b ≠ none → ¬ Av C p.ow b → ¬ Av (C.plus a) p.ow b := fun b n z w => by
    rcases w with (w | w) | w
    · exact z (.inl w)
    · rw [w] at n; exact n ha
    · exact z (.inr w)
  refine ⟨⟨slots_to (C := C) (C' := C.plus a) rfl rfl R (fun i b e => upd_ne fun z => R.rootNe e (z ▸ ha)) h1 h2, R.inj, R.own0, fun i b e z => ?_, fun b u e n => s b u (R.keep b u e n), fun b z w => ?_, R.len, fun b e w => R.ioH b e (s.free w)⟩, T, fun d v h => Den.to h1 h2 d v h⟩
  · rcases z with z | z
    · exact R.ownA i b e z
    · exact R.rootNe e (z ▸ ha)
  · rcases z with z | z
    · exact R.a0 b z (s.free w)
    · have w : upd p.H a o b = none := w
      rw [z, upd_same] at w; cases w
theorem Dens.newAt {K : Frag} {H H' : Hp} {A A' : Addr → Prop} (h : ∀ (d : D) (v : V), Den K H A d v → Den K H' A' d v) : ∀ {l : List D} {xs : List V}, Dens K H A l xs → Dens K H' A' l xs
  | [], xs, r => by rw [Dens] at r; subst r; exact .nil
  | d :: l, xs, r => by
    rw [Dens] at r
    obtain ⟨x, t, rfl, h1, h2⟩ := r
    exact .cons (h d x h1) (Dens.newAt h h2)

/-- a new value is given to everybody -/
theorem tF_tS {sg : L2.St} {H : Hp} {Q : VK} {m : SemF} (h : tS C (fun env => (m env).bind fun x => some (.val x.1, x.2)) sg H Q) : tF C m sg H Q := by
  obtain ⟨ow, env, r, env', e, R, k⟩ := h
  obtain ⟨⟨d, e1⟩, h1, e⟩ := Option.bind_eq_some_iff.mp e
  cases e
  refine ⟨ow, env, d, _, h1, R, fun a H' ow' ha R' T' rt => ?_⟩
  have R2 := R'.unplus
  refine k (.ref a) H' ow' R2 T' ?_
  have rt2 : Root C.K H' (Av C ow') d a := rt.to rfl (fun _ _ e _ => e) fun b _ n z => n (z.elim (fun z => .inl (.inl z)) .inr)
  refine rt2.den fun z => ?_
  rcases z with z | ⟨i, z⟩
  · exact R.a0 a z ha
  · exact R'.ownA i a z (.inr rfl)

/-! ### stores to a slot -/
def storable (env : Env) (i : Nat) : Bool := match env[i]? with
  | none => false
  | some (.lk _) => false
  | some (.io _) => false
  | _ => true
def storeS (s : Sl) (i : Nat) (env : Env) : Option Env := if storable env i then some (env.set i s) else none
theorem storable_lt {env : Env} {i : Nat} (h : storable env i = true) : i < env.length ∧ (∀ d, env[i]? ≠ some (.lk d)) ∧ ∀ d, env[i]? ≠ some (.io d) := by
  unfold storable at h
  cases e : env[i]? with
  | none => rw [e] at h; cases h
  | some sl =>
    refine ⟨(List.getElem?_eq_some_iff.mp e).1, fun d z => ?_, fun d z => ?_⟩
    · rw [e] at h; cases z; cases h
    · rw [e] at h; cases z; cases h
/-- the slot i has o as its root from now on (none: it is shared) -/
def setOw (ow : Nat → Option Addr) (i : Nat) (o : Option Addr) : Nat → Option Addr := fun j => if j = i then o else ow j
theorem setOw_eq {ow : Nat → Option Addr} {i : Nat} {o : Option Addr} : setOw ow i o i = o := if_pos rfl
theorem setOw_ne {ow : Nat → Option Addr} {i j : Nat} {o : Option Addr} (h : j ≠ i) : setOw ow i o j = ow j := if_neg h
theorem store_sh (R : Rel C p) {i : Nat} {d : D} {v : V} (hs : storable p.env i = true) (dn : Den C.K p.H (Av C p.ow) d v) :
    Rel C { p with ow := setOw p.ow i none, sg := p.sg.set i (some v), env := p.env.set i (.sh d) } ∧ Tr p { p with ow := setOw p.ow i none, sg := p.sg.set i (some v), env := p.env.set i (.sh d) } := by
  obtain ⟨lt, nlk, nio⟩ := storable_lt hs
  have lt2 : i < p.sg.length := Nat.lt_of_lt_of_le lt R.len
  have hsub : ∀ b, Av C (setOw p.ow i none) b → Av C p.ow b := fun b z => by
    rcases z with z | ⟨j, z⟩
    · exact .inl z
    · by_cases hj : j = i
      · rw [hj, setOw_eq] at z; cases z
      · rw [setOw_ne hj] at z; exact .inr ⟨j, z⟩
  have oj : ∀ j b, setOw p.ow i none j = some b → p.ow j = some b := fun j b z => by
    by_cases hj : j = i
    · rw [hj, setOw_eq] at z; cases z
    · rwa [setOw_ne hj] at z
  have hr : ∀ d b, Root C.K p.H (Av C p.ow) d b → Root C.K p.H (Av C (setOw p.ow i none)) d b := fun d b w => w.to rfl (fun _ _ e _ => e) fun b _ n z => n (hsub b z)
  refine ⟨⟨fun j => ?_, fun j k b z1 z2 => R.inj j k b (oj j b z1) (oj k b z2), fun j b z => R.own0 j b (oj j b z), fun j b z => R.ownA j b (oj j b z), R.keep, R.a0, ?_, R.ioH⟩, ⟨fun _ _ e _ => e, fun j b z => .inl ⟨j, oj j b z⟩, fun _ n => n, fun j d' z => ?_, fun d' z => ?_⟩⟩
  · show SlOk C _ j (p.env.set i (.sh d))[j]?
    by_cases hj : j = i
    · subst hj
      rw [List.getElem?_set_self lt]
      exact ⟨setOw_eq, v, List.getElem?_set_self lt2, dn.less hsub⟩
    · rw [List.getElem?_set_ne (Ne.symm hj)]
      have how : setOw p.ow i none j = p.ow j := setOw_ne hj
      have hsg : ∀ z, p.sg[j]? = z → (p.sg.set i (some v))[j]? = z := fun z e => by rw [List.getElem?_set_ne (Ne.symm hj)]; exact e
      have s := R.slot j
      cases q : p.env[j]? with
      | none => rw [q] at s; exact how.trans s
      | some sl =>
        rw [q] at s
        cases sl with
        | no => exact how.trans s
        | sh d' => obtain ⟨s1, w, s2, s3⟩ := s; exact ⟨how.trans s1, w, hsg _ s2, s3.less hsub⟩
        | ow d' => obtain ⟨b, s1, s2, s3, s4⟩ := s; exact ⟨b, how.trans s1, hsg _ s2, hr _ _ s3, s4⟩
        | lk d' => obtain ⟨b, s1, s2, s3, s4⟩ := s; exact ⟨b, how.trans s1, hsg _ s2, hr _ _ s3, s4⟩
        | io d' => obtain ⟨b, s1, s2, s3, s4⟩ := s; exact ⟨b, how.trans s1, hsg _ s2, hr _ _ s3, s4⟩
  · show (p.env.set i _).length ≤ (p.sg.set i _).length
    rw [List.length_set, List.length_set]; exact R.len
  · have hj : j ≠ i := by rintro rfl; exact nlk d' z
    refine ⟨?_, setOw_ne hj, ?_⟩
    · show (p.env.set i _)[j]? = _
      rw [List.getElem?_set_ne (Ne.symm hj)]; exact z
    · show (p.sg.set i _)[j]? = _
      rw [List.getElem?_set_ne (Ne.symm hj)]
  · have hj : 0 ≠ i := by rintro rfl; exact nio d' z
    refine ⟨⟨d', ?_⟩, setOw_ne hj, ?_⟩
    · show (p.env.set i _)[0]? = _
      rw [List.getElem?_set_ne (Ne.symm hj)]; exact z
    · show (p.sg.set i _)[0]? = _
      rw [List.getElem?_set_ne (Ne.symm hj)]
theorem store_ow {p0 : Ps} {a : Addr} (R : Rel (C.plus a) p) (T : Tr p0 p) (h0 : p0.H a = none) (hH0 : C.H0 a = none) (hio : C.io ≠ some a) (hA0 : ¬ C.A0 a) {i : Nat} {d : D} (hs : storable p.env i = true) (rt : Root C.K p.H (Av (C.plus a) p.ow) d a) :
    Rel C { p with ow := setOw p.ow i (some a), sg := p.sg.set i (some (.ref a)), env := p.env.set i (.ow d) } ∧ Tr p0 { p with ow := setOw p.ow i (some a), sg := p.sg.set i (some (.ref a)), env := p.env.set i (.ow d) } := by
  obtain ⟨lt, nlk, nio⟩ := storable_lt hs
  have lt2 : i < p.sg.length := Nat.lt_of_lt_of_le lt R.len
  have hsub : ∀ b, Av C (setOw p.ow i (some a)) b → Av (C.plus a) p.ow b := fun b z => by
    rcases z with z | ⟨j, z⟩
    · exact .inl (.inl z)
    · by_cases hj : j = i
      · rw [hj, setOw_eq] at z; cases z; exact .inl (.inr rfl)
      · rw [setOw_ne hj] at z; exact .inr ⟨j, z⟩
  have oj : ∀ j b, setOw p.ow i (some a) j = some b → (j = i ∧ b = a) ∨ (j ≠ i ∧ p.ow j = some b) := fun j b z => by
    by_cases hj : j = i
    · rw [hj, setOw_eq] at z; cases z; exact .inl ⟨hj, rfl⟩
    · rw [setOw_ne hj] at z; exact .inr ⟨hj, z⟩
  have hr : ∀ d b, Root C.K p.H (Av (C.plus a) p.ow) d b → Root C.K p.H (Av C (setOw p.ow i (some a))) d b := fun d b w => w.to rfl (fun _ _ e _ => e) fun b _ n z => n (hsub b z)
  have na : ∀ j, p.ow j ≠ some a := fun j z => R.ownA j a z (.inr rfl)
  refine ⟨⟨fun j => ?_, fun j k b z1 z2 => ?_, fun j b z => ?_, fun j b z w => ?_, R.keep, fun b z => R.a0 b (.inl z), ?_, R.ioH⟩, ⟨fun b o e n => T.same b o e n, fun j b z => ?_, T.trk, fun j d' z => ?_, fun d' z => ?_⟩⟩
  · show SlOk C _ j (p.env.set i (.ow d))[j]?
    by_cases hj : j = i
    · subst hj
      rw [List.getElem?_set_self lt]
      exact ⟨a, setOw_eq, List.getElem?_set_self lt2, hr _ _ rt, hio⟩
    · rw [List.getElem?_set_ne (Ne.symm hj)]
      have how : setOw p.ow i (some a) j = p.ow j := setOw_ne hj
      have hsg : ∀ z, p.sg[j]? = z → (p.sg.set i (some (.ref a)))[j]? = z := fun z e => by rw [List.getElem?_set_ne (Ne.symm hj)]; exact e
      have s := R.slot j
      cases q : p.env[j]? with
      | none => rw [q] at s; exact how.trans s
      | some sl =>
        rw [q] at s
        cases sl with
        | no => exact how.trans s
        | sh d' => obtain ⟨s1, w, s2, s3⟩ := s; exact ⟨how.trans s1, w, hsg _ s2, Den.less hsub s3⟩
        | ow d' => obtain ⟨b, s1, s2, s3, s4⟩ := s; exact ⟨b, how.trans s1, hsg _ s2, hr _ _ s3, s4⟩
        | lk d' => obtain ⟨b, s1, s2, s3, s4⟩ := s; exact ⟨b, how.trans s1, hsg _ s2, hr _ _ s3, s4⟩
        | io d' => obtain ⟨b, s1, s2, s3, s4⟩ := s; exact ⟨b, how.trans s1, hsg _ s2, hr _ _ s3, s4⟩
  · rcases oj j b z1 with ⟨e1, e2⟩ | ⟨e1, e2⟩ <;> rcases oj k b z2 with ⟨f1, f2⟩ | ⟨f1, f2⟩
    · rw [e1, f1]
    · exact absurd (e2 ▸ f2) (na k)
    · exact absurd (f2 ▸ e2) (na j)
    · exact R.inj j k b e2 f2
  · rcases oj j b z with ⟨e1, e2⟩ | ⟨e1, e2⟩
    · rw [e2]; exact .inl hH0
    · exact R.own0 j b e2
  · rcases oj j b z with ⟨e1, e2⟩ | ⟨e1, e2⟩
    · subst e2
      exact hA0 w
    · exact R.ownA j b e2 (.inl w)
  · show (p.env.set i _).length ≤ (p.sg.set i _).length
    rw [List.length_set, List.length_set]; exact R.len
  · rcases oj j b z with ⟨e1, e2⟩ | ⟨e1, e2⟩
    · rw [e2]; exact .inr h0
    · exact T.owns j b e2
  · obtain ⟨t1, t2, t3⟩ := T.lks j d' z
    have hj : j ≠ i := by rintro rfl; exact nlk d' t1
    refine ⟨?_, (setOw_ne hj).trans t2, ?_⟩
    · show (p.env.set i _)[j]? = _
      rw [List.getElem?_set_ne (Ne.symm hj)]; exact t1
    · show (p.sg.set i _)[j]? = _
      rw [List.getElem?_set_ne (Ne.symm hj)]; exact t3
  · obtain ⟨⟨d1, t1⟩, t2, t3⟩ := T.ios d' z
    have hj : 0 ≠ i := by rintro rfl; exact nio d1 t1
    refine ⟨⟨d1, ?_⟩, (setOw_ne hj).trans t2, ?_⟩
    · show (p.env.set i _)[0]? = _
      rw [List.getElem?_set_ne (Ne.symm hj)]; exact t1
    · show (p.sg.set i _)[0]? = _
      rw [List.getElem?_set_ne (Ne.symm hj)]; exact t3
theorem Rel.fresh3 (R : Rel C p) {a : Addr} (h : p.H a = none) : C.H0 a = none ∧ C.io ≠ some a ∧ ¬ C.A0 a := by
  have io : C.io ≠ some a := fun z => R.ioH a z h
  refine ⟨?_, io, fun z => R.a0 a z h⟩
  cases q : C.H0 a with
  | none => rfl
  | some o => have := R.keep a o q io; rw [h] at this; cases this

/-- an owned list changes -/
theorem mutate (R : Rel C p) {i : Nat} {a : Addr} {d d' : D} {sl : Sl} {o : HO} (ha : p.ow i = some a) (hsl : (p.env[i]? = some (.ow d) ∧ sl = .ow d') ∨ (p.env[i]? = some (.io d) ∧ sl = .io d'))
    (rt : ∀ H', (∀ b u, b ≠ a → p.H b = some u → H' b = some u) → H' a = some o → Root C.K H' (Av C p.ow) d' a) :
    Rel C { p with H := upd p.H a o, env := p.env.set i sl } ∧ Tr p { p with H := upd p.H a o, env := p.env.set i sl } := by
  have lt : i < p.env.length := by
    rcases hsl with ⟨e, _⟩ | ⟨e, _⟩ <;> exact (List.getElem?_eq_some_iff.mp e).1
  have keep : ∀ b u, b ≠ a → p.H b = some u → upd p.H a o b = some u := fun b u n e => by rw [upd_ne n]; exact e
  have h1 : ∀ b u, p.H b = some u → ¬ Av C p.ow b → upd p.H a o b = some u := fun b u e n => keep b u (fun z => n (.inr ⟨i, z ▸ ha⟩)) e
  have hne : upd p.H a o a = some o := upd_same
  have trk : ∀ b, p.H b ≠ none → upd p.H a o b ≠ none := fun b n => by
    by_cases hb : b = a
    · rw [hb, hne]; exact fun z => nomatch z
    · rw [upd_ne hb]; exact n
  refine ⟨⟨fun j => ?_, R.inj, R.own0, R.ownA, fun b u e n => ?_, fun b z => trk b (R.a0 b z), ?_, fun b e => trk b (R.ioH b e)⟩, ⟨fun b u e n => keep b u (fun z => n i (z ▸ ha)) e, fun j b z => .inl ⟨j, z⟩, trk, fun j d2 z => ⟨?_, rfl, rfl⟩, fun d2 z => ⟨?_, rfl, rfl⟩⟩⟩
  · show SlOk C _ j (p.env.set i sl)[j]?
    by_cases hj : j = i
    · subst hj
      rw [List.getElem?_set_self lt]
      have s := R.slot j
      rcases hsl with ⟨e, rfl⟩ | ⟨e, rfl⟩
      · rw [e] at s
        obtain ⟨b, g1, g2, _, g4⟩ := s
        have g1 : p.ow j = some b := g1
        rw [ha] at g1; cases g1
        exact ⟨a, ha, g2, rt _ keep hne, g4⟩
      · rw [e] at s
        obtain ⟨b, g1, g2, _, g4⟩ := s
        have g1 : p.ow j = some b := g1
        rw [ha] at g1; cases g1
        exact ⟨a, ha, g2, rt _ keep hne, g4⟩
    · rw [List.getElem?_set_ne (Ne.symm hj)]
      have nj : ∀ b, p.ow j = some b → b ≠ a := fun b e z => hj (R.inj j i a (z ▸ e) ha)
      have s := R.slot j
      cases q : p.env[j]? with
      | none => rw [q] at s; exact s
      | some s0 =>
        rw [q] at s
        cases s0 with
        | no => exact s
        | sh d2 => obtain ⟨g1, v, g2, g3⟩ := s; exact ⟨g1, v, g2, Den.to h1 (fun _ _ n => n) _ _ g3⟩
        | ow d2 => obtain ⟨b, g1, g2, g3, g4⟩ := s; exact ⟨b, g1, g2, g3.to (upd_ne (nj b g1)) h1 fun _ _ n => n, g4⟩
        | lk d2 => obtain ⟨b, g1, g2, g3, g4⟩ := s; exact ⟨b, g1, g2, g3.to (upd_ne (nj b g1)) h1 fun _ _ n => n, g4⟩
        | io d2 => obtain ⟨b, g1, g2, g3, g4⟩ := s; exact ⟨b, g1, g2, g3.to (upd_ne (nj b g1)) h1 fun _ _ n => n, g4⟩
  · refine keep b u (fun z => ?_) (R.keep b u e n)
    subst z
    rcases R.own0 i b ha with w | w
    · rw [w] at e; cases e
    · exact n w
  · show (p.env.set i _).length ≤ _
    rw [List.length_set]; exact R.len
  · have hj : j ≠ i := by
      rintro rfl
      have z : p.env[j]? = some (.lk d2) := z
      rcases hsl with ⟨e, _⟩ | ⟨e, _⟩ <;> (rw [e] at z; cases z)
    show (p.env.set i sl)[j]? = _
    rw [List.getElem?_set_ne (Ne.symm hj)]; exact z
  · by_cases hj : 0 = i
    · subst hj
      have z : p.env[0]? = some (.io d2) := z
      rcases hsl with ⟨e, _⟩ | ⟨e, rfl⟩
      · rw [e] at z; cases z
      · exact ⟨d', by show (p.env.set 0 (.io d'))[0]? = _; rw [List.getElem?_set_self lt]⟩
    · refine ⟨d2, ?_⟩
      show (p.env.set i sl)[0]? = _
      rw [List.getElem?_set_ne (Ne.symm hj)]; exact z
end

section
variable {X : Cx} {C : Cf} {e a b : Expr} {es : List Expr} {pos : Pos} {m m1 m2 : Sem} {ms : SemR}
/-! ### displays -/
def sForces (ms : SemR) (k : List D → Option D) : SemF := fun env => (ms env).bind fun x => (forces x.1 x.2).bind fun y => (k y.1).bind fun d => some (d, y.2)
def small (l : List D) : Bool := decide (l.length ≤ sizeLine)
def fLst (ms : SemR) : SemF := sForces ms fun ds => if small ds then some (.lst ds) else none
theorem f_lst (h : PA X es (tR C ms)) : PE X (.List es pos) (tF C (fLst ms)) := by
  refine peOf (pe_lst h) fun sg H Q w => ?_
  obtain ⟨ow, env, d, env', e, R, k⟩ := w
  unfold fLst sForces at e
  obtain ⟨⟨rs, e1⟩, h1, e⟩ := Option.bind_eq_some_iff.mp e
  obtain ⟨⟨ds, e2⟩, h2, e⟩ := Option.bind_eq_some_iff.mp e
  obtain ⟨d', h3, e⟩ := Option.bind_eq_some_iff.mp e
  cases e
  dsimp only at h3
  split at h3
  · rename_i hz
    cases h3
    refine ⟨ow, env, rs, e1, h1, R, fun vs H1 ow1 R1 T1 D1 => ?_⟩
    obtain ⟨ow2, R2, T2, D2⟩ := forces_ok R1 D1 h2
    have hz := of_decide_eq_true hz
    refine ⟨by rw [← D2.length]; exact hz, fun q hq => ?_⟩
    obtain ⟨R3, T3, mv⟩ := R2.newAt (.lst vs) hq
    have hqH : H q = none := by
      cases z : H q with
      | none => rfl
      | some o => exact absurd hq ((T1.trans T2).trk q (by show H q ≠ none; rw [z]; exact fun w => nomatch w))
    exact k q _ ow2 hqH R3 (T1.trans (T2.trans T3)) ⟨vs, upd_same, Dens.newAt mv D2⟩
  · cases h3
def sTup (ms : SemR) : Sem := fun env => (sForces ms (fun ds => if small ds then some (.tup ds) else none) env).bind fun x => some (.val x.1, x.2)
theorem s_tup {x1 : Nat} (h : PA X es (tR C ms)) : PE X (.Tuple es x1 pos) (tS C (sTup ms)) := by
  refine peOf (pe_tup h) fun sg H Q w => ?_
  obtain ⟨ow, env, d, env', e, R, k⟩ := w
  unfold sTup sForces at e
  obtain ⟨⟨dd, e0⟩, e, e'⟩ := Option.bind_eq_some_iff.mp e
  obtain ⟨⟨rs, e1⟩, h1, e⟩ := Option.bind_eq_some_iff.mp e
  obtain ⟨⟨ds, e2⟩, h2, e⟩ := Option.bind_eq_some_iff.mp e
  obtain ⟨d', h3, e⟩ := Option.bind_eq_some_iff.mp e
  cases e
  cases e'
  dsimp only at h3
  split at h3
  · rename_i hz
    cases h3
    refine ⟨ow, env, rs, e1, h1, R, fun vs H1 ow1 R1 T1 D1 => ?_⟩
    obtain ⟨ow2, R2, T2, D2⟩ := forces_ok R1 D1 h2
    have hz := of_decide_eq_true hz
    refine ⟨by rw [← D2.length]; exact hz, fun q hq => ?_⟩
    obtain ⟨s, dn⟩ := newT R2 hq D2
    obtain ⟨R3, T3⟩ := R2.grow s
    exact k _ _ ow2 R3 (T1.trans (T2.trans T3)) dn
  · cases h3
def fDict : SemF := fun env => some (.dK [] [], env)
theorem f_dict : PE X (.Dict [] [] pos) (tF C fDict) := by
  refine peOf pe_dnewK fun sg H Q w => ?_
  obtain ⟨ow, env, d, env', e, R, k⟩ := w
  cases e
  intro q hq
  obtain ⟨R3, T3, mv⟩ := R.newAt (.dK []) hq
  exact k q _ ow hq R3 T3 ⟨[], upd_same, rfl, .nil⟩
def fDictT : SemF := fun env => some (.dT [] [], env)
theorem f_dictT : PE X (.Dict [] [] pos) (tF C fDictT) := by
  refine peOf pe_dnewT fun sg H Q w => ?_
  obtain ⟨ow, env, d, env', e, R, k⟩ := w
  cases e
  intro q hq
  obtain ⟨R3, T3, mv⟩ := R.newAt (.dT []) hq
  exact k q _ ow hq R3 T3 ⟨[], upd_same, rfl, .nil⟩
/-- given to everybody -/
def sGive (m : SemF) : Sem := fun env => (m env).bind fun x => some (.val x.1, x.2)
theorem s_give {m : SemF} (h : PE X e (tF C m)) : PE X e (tS C (sGive m)) := peOf h fun sg H Q w => tF_tS w

/-! ### targets -/
abbrev SemG := D → Env → Option Env
/-- the slots outside vs stand as they stood -/
def Keeps (vs : List Nat) (sg sg' : L2.St) : Prop := (∀ j, j ∉ vs → sg'[j]? = sg[j]?) ∧ sg'.length = sg.length
theorem Keeps.refl {vs : List Nat} {sg : L2.St} : Keeps vs sg sg := ⟨fun _ _ => rfl, rfl⟩
theorem Keeps.trans {vs : List Nat} {a b c : L2.St} (h : Keeps vs a b) (k : Keeps vs b c) : Keeps vs a c := ⟨fun j n => (k.1 j n).trans (h.1 j n), k.2.trans h.2⟩
def tG (C : Cf) (vs : List Nat) (g : SemG) : TG := fun v sg H Q => ∃ ow env d env', g d env = some env' ∧ Rel C ⟨ow, sg, H, env⟩ ∧ Den C.K H (Av C ow) d v ∧
  ∀ sg' H' ow', Rel C ⟨ow', sg', H', env'⟩ → Tr ⟨ow, sg, H, env⟩ ⟨ow', sg', H', env'⟩ → Keeps vs sg sg' → Q sg' H'
abbrev SemGs := List D → Env → Option Env
def tGs (C : Cf) (vs : List Nat) (g : SemGs) : TGs := fun xs sg H Q => ∃ ow env ds env', g ds env = some env' ∧ Rel C ⟨ow, sg, H, env⟩ ∧ Dens C.K H (Av C ow) ds xs ∧
  ∀ sg' H' ow', Rel C ⟨ow', sg', H', env'⟩ → Tr ⟨ow, sg, H, env⟩ ⟨ow', sg', H', env'⟩ → Keeps vs sg sg' → Q sg' H'
theorem pgOf {tg : Expr} {g g' : TG} (h : PG X tg g) (k : ∀ v sg H Q, g' v sg H Q → g v sg H Q) : PG X tg g' := ⟨fun pins s σ H v u Q I r w => h.run pins s σ H v u Q I r (k _ _ _ _ w)⟩
theorem pgsOf {tg : List Expr} {g g' : TGs} (h : PGs X tg g) (k : ∀ v sg H Q, g' v sg H Q → g v sg H Q) : PGs X tg g' := ⟨fun pins s σ H v u Q I r w => h.run pins s σ H v u Q I r (k _ _ _ _ w)⟩
def gName (i : Nat) : SemG := fun d env => storeS (.sh d) i env
theorem storeS_inv {s : Sl} {i : Nat} {env env' : Env} (e : storeS s i env = some env') : storable env i = true ∧ env' = env.set i s := by
  unfold storeS at e
  split at e
  · rename_i h; cases e; exact ⟨h, rfl⟩
  · cases e
theorem g_name {vs : List Nat} {i : Nat} {x : Str} (hiv : i ∈ vs) (hN : X.N.Nodup) (hi : X.N[i]? = some x) (hx : Loc X.env.scope x) (hf : X.fn x = true ∨ X.env.scope.names.lookup x = some .local) : PG X (.Name x pos) (tG C vs (gName i)) := by
  refine pgOf (pg_name hN hi hx hf) fun v sg H Q w => ?_
  obtain ⟨ow, env, d, env', e, R, dn, k⟩ := w
  obtain ⟨hs, rfl⟩ := storeS_inv e
  obtain ⟨R2, T2⟩ := store_sh R hs dn
  exact k _ _ _ R2 T2 ⟨fun j n => List.getElem?_set_ne (show i ≠ j from fun z => n (z ▸ hiv)), List.length_set⟩
def gsNil : SemGs := fun ds env => match ds with
  | [] => some env
  | _ => none
def gsCons (g : SemG) (gs : SemGs) : SemGs := fun ds env => match ds with
  | d :: ds => (g d env).bind fun env1 => gs ds env1
  | [] => none
theorem gs_nil {vs : List Nat} : PGs X [] (tGs C vs gsNil) := by
  refine pgsOf pgs_nil fun vs sg H Q w => ?_
  obtain ⟨ow, env, d, env', e, R, dn, k⟩ := w
  cases d with
  | nil => cases e; rw [Dens] at dn; exact ⟨dn, k _ _ _ R (Tr.refl _) .refl⟩
  | cons _ _ => cases e
theorem gs_cons {vs : List Nat} {g : SemG} {gs : SemGs} (h1 : PG X e (tG C vs g)) (h2 : PGs X es (tGs C vs gs)) (hs : (assignEach (e :: es) X.env).map (·.2) = assign e X.env :: (assignEach es X.env).map (·.2)) : PGs X (e :: es) (tGs C vs (gsCons g gs)) := by
  refine pgsOf (pgs_cons h1 h2 hs) fun vs sg H Q w => ?_
  obtain ⟨ow, env, ds, env', e, R, dn, k⟩ := w
  cases ds with
  | nil => cases e
  | cons d ds =>
    obtain ⟨env1, e1, e⟩ := Option.bind_eq_some_iff.mp e
    rw [Dens] at dn
    obtain ⟨x, r, rfl, d1, d2⟩ := dn
    exact ⟨x, r, rfl, ow, env, d, env1, e1, R, d1, fun sg' H' ow' R' T' K1 => ⟨ow', env1, ds, env', e, R', Dens.go (C := C) T' d2, fun sg2 H2 ow2 R2 T2 K2 => k _ _ _ R2 (T'.trans T2) (K1.trans K2)⟩⟩
def gTup (n : Nat) (gs : SemGs) : SemG := fun d env => match d with
  | .tup ds => if ds.length = n then gs ds env else none
  | _ => none
theorem g_tup {vs : List Nat} {k n : Nat} {gs : SemGs} (hK : C.K = X.K) (hc : X.calm = true) (h : PGs X es (tGs C vs gs)) (hn : (assignEach es X.env).length = n) (hst : (assignEach es X.env).findIdx? (·.1) = none) : PG X (.Tuple es k pos) (tG C vs (gTup n gs)) := by
  refine pgOf (pg_tup hc h hn hst) fun v sg H Q w => ?_
  obtain ⟨ow, env, d, env', e, R, dn, k⟩ := w
  unfold gTup at e
  split at e
  · split at e
    · rename_i hl
      obtain ⟨a, xs, e1, s1, r1⟩ := bTup dn.b
      rw [hK] at s1
      exact ⟨a, xs, e1, s1, by rw [← r1.length]; exact hl, ow, env, _, env', e, R, r1, k⟩
    · cases e
  · cases e

/-! ### statements -/
def sAsg (m : Sem) (g : SemG) : SemS := fun env => (m env).bind fun x => (force x.1 x.2).bind fun y => (g y.1 y.2).bind fun e => some (.nx e)
theorem asgOf {vs : List Nat} {m : Sem} {g : SemG} {D : Ends} {sg : L2.St} {H : Hp} (w : tSt C (sAsg m g) D sg H) : tAsg (tS C m) (tG C vs g) D sg H := by
  obtain ⟨ow, env, o, e, R, k⟩ := w
  unfold sAsg at e
  obtain ⟨⟨r, e1⟩, h1, e⟩ := Option.bind_eq_some_iff.mp e
  obtain ⟨⟨d, e2⟩, h2, e⟩ := Option.bind_eq_some_iff.mp e
  obtain ⟨e3, h3, e⟩ := Option.bind_eq_some_iff.mp e
  cases e
  refine ⟨ow, env, r, e1, h1, R, fun v H1 ow1 R1 T1 D1 => ?_⟩
  obtain ⟨ow2, R2, T2, D2⟩ := force_ok R1 D1 h2
  exact ⟨ow2, e2, d, e3, h3, R2, D2, fun sg' H' ow' R' T' _ => k sg' H' ow' R' (T1.trans (T2.trans T'))⟩
theorem st_asg {vs : List Nat} {tg : Expr} {g : SemG} (he : PE X e (tS C m)) (hg : PG X tg (tG C vs g)) (hs : swapsWithSole [tg] e pos.line X.env = pure false) (hw : swappedStores [tg] e X.env = pure none)
    (h1 : (assignEach [tg] X.env).map (·.2) = [assign tg X.env]) : PS X (.Assign [tg] e pos) (tSt C (sAsg m g)) :=
  psOf (ps_asg he hg hs hw h1) fun D sg H w => asgOf w
/-- x = a new list, which the def goes on to change -/
def sOwn (m : SemF) (i : Nat) : SemS := fun env => (m env).bind fun x => (storeS (.ow x.1) i x.2).bind fun e => some (.nx e)
theorem ownOf {m : SemF} {i : Nat} {D : Ends} {sg : L2.St} {H : Hp} (w : tSt C (sOwn m i) D sg H) : tAsg (tF C m) (L2.gName i) D sg H := by
  obtain ⟨ow, env, o, e, R, k⟩ := w
  unfold sOwn at e
  obtain ⟨⟨d, e1⟩, h1, e⟩ := Option.bind_eq_some_iff.mp e
  obtain ⟨e2, h2, e⟩ := Option.bind_eq_some_iff.mp e
  cases e
  obtain ⟨hs, rfl⟩ := storeS_inv h2
  refine ⟨ow, env, d, e1, h1, R, fun a H1 ow1 ha R1 T1 rt => ?_⟩
  obtain ⟨f1, f2, f3⟩ := R.fresh3 (p := ⟨ow, sg, H, env⟩) ha
  obtain ⟨R2, T2⟩ := store_ow (p0 := ⟨ow, sg, H, env⟩) (p := ⟨ow1, sg, H1, e1⟩) R1 T1 ha f1 f2 f3 hs rt
  exact k _ _ _ R2 T2
theorem st_own {i : Nat} {x : Str} {m : SemF} {pos' : Pos} (hN : X.N.Nodup) (hi : X.N[i]? = some x) (hx : Loc X.env.scope x) (he : PE X e (tF C m)) (hs : swapsWith e (some (.Name x pos')) pos.line X.env = pure false) (hf : X.fn x = true ∨ X.env.scope.names.lookup x = some .local) :
    PS X (.Assign [.Name x pos'] e pos) (tSt C (sOwn m i)) :=
  psOf (ps_set hN hi hx he hs hf) fun D sg H w => ownOf w
def sRet (m : Sem) : SemS := fun env => (m env).bind fun x => (force x.1 x.2).bind fun y => some (.rt y.1 y.2)
theorem st_ret (he : PE X e (tS C m)) : PS X (.Return (some e) pos) (tSt C (sRet m)) := by
  refine psOf (ps_ret he) fun D sg H w => ?_
  obtain ⟨ow, env, o, e, R, k⟩ := w
  unfold sRet at e
  obtain ⟨⟨r, e1⟩, h1, e⟩ := Option.bind_eq_some_iff.mp e
  obtain ⟨⟨d, e2⟩, h2, e⟩ := Option.bind_eq_some_iff.mp e
  cases e
  refine ⟨ow, env, r, e1, h1, R, fun v H1 ow1 R1 T1 D1 => ?_⟩
  obtain ⟨ow2, R2, T2, D2⟩ := force_ok R1 D1 h2
  exact k v sg H1 ow2 R2 (T1.trans T2) D2
def sRetN : SemS := fun env => some (.rt .non env)
theorem st_retN : PS X (.Return none pos) (tSt C sRetN) := by
  refine psOf ps_retN fun D sg H w => ?_
  obtain ⟨ow, env, o, e, R, k⟩ := w
  cases e
  exact k .non sg H ow R (Tr.refl _) dNon
def sDrop (m : Sem) : SemS := fun env => (m env).bind fun x => some (.nx x.2)
theorem st_expr (he : PE X e (tS C m)) (hs : swapsWith e none pos.line X.env = pure false) : PS X (.Expr e pos) (tSt C (sDrop m)) := by
  refine psOf (ps_expr he hs) fun D sg H w => ?_
  obtain ⟨ow, env, o, e, R, k⟩ := w
  unfold sDrop at e
  obtain ⟨⟨r, e1⟩, h1, e⟩ := Option.bind_eq_some_iff.mp e
  cases e
  exact ⟨ow, env, r, e1, h1, R, fun v H1 ow1 R1 T1 D1 => k sg H1 ow1 R1 T1⟩
def sSkip : SemS := fun env => some (.nx env)
theorem sskip {D : Ends} {sg : L2.St} {H : Hp} (w : tSt C sSkip D sg H) : D.nx sg H := by
  obtain ⟨ow, env, o, e, R, k⟩ := w
  cases e
  exact k sg H ow R (Tr.refl _)
theorem st_doc {x : Str} {j : Nat} {pos' : Pos} : PS X (.Expr (.Constant (.str x) j pos) pos') (tSt C sSkip) := psOf ps_doc fun D sg H w => sskip w
theorem st_pass : PS X (.Pass pos) (tSt C sSkip) := psOf ps_pass fun D sg H w => sskip w
def sBreak : SemS := fun env => some (.bk env)
theorem st_break : PS X (.Break pos) (tSt C sBreak) := psOf ps_break fun D sg H w => by
  obtain ⟨ow, env, o, e, R, k⟩ := w
  cases e
  exact k sg H ow R (Tr.refl _)
def sCont : SemS := fun env => some (.ct env)
theorem st_cont : PS X (.Continue pos) (tSt C sCont) := psOf ps_continue fun D sg H w => by
  obtain ⟨ow, env, o, e, R, k⟩ := w
  cases e
  exact k sg H ow R (Tr.refl _)
def sSeq (a b : SemS) : SemS := fun env => (a env).bind fun o => match o with
  | .nx e => b e
  | o => some o
variable {sa sb : SemS} {st : Stmt} {rest : List Stmt}
theorem sts_nil : PSs X [] (tSt C sSkip) := pssOf pss_nil fun D sg H w => sskip w
theorem sts_one (h : PS X st (tSt C sa)) : PSs X [st] (tSt C sa) := pss_one h
theorem sts_cons (h1 : PS X st (tSt C sa)) (h2 : PSs X rest (tSt C sb)) : PSs X (st :: rest) (tSt C (sSeq sa sb)) := by
  refine pssOf (pss_cons h1 h2) fun D sg H w => ?_
  obtain ⟨ow, env, o, e, R, k⟩ := w
  unfold sSeq at e
  obtain ⟨o1, h1, e⟩ := Option.bind_eq_some_iff.mp e
  refine ⟨ow, env, o1, h1, R, ?_⟩
  cases o1 with
  | nx e1 =>
    intro sg1 H1 ow1 R1 T1
    refine ⟨ow1, e1, o, e, R1, ?_⟩
    cases o with
    | nx e2 => exact fun sg2 H2 ow2 R2 T2 => k sg2 H2 ow2 R2 (T1.trans T2)
    | bk e2 => exact fun sg2 H2 ow2 R2 T2 => k sg2 H2 ow2 R2 (T1.trans T2)
    | ct e2 => exact fun sg2 H2 ow2 R2 T2 => k sg2 H2 ow2 R2 (T1.trans T2)
    | rt d e2 => exact fun v sg2 H2 ow2 R2 T2 D2 => k v sg2 H2 ow2 R2 (T1.trans T2) D2
  | bk e1 => cases e; exact k
  | ct e1 => cases e; exact k
  | rt d e1 => cases e; exact k
def sIfS (t : SemB) (a b : SemS) : SemS := fun env => (t env).bind fun x => if x.1 = true then a x.2 else b x.2
theorem st_if {c : Expr} {p q : List Stmt} {mc : SemB} (hc : PT X c (tT C mc)) (ha : PSs X p (tSt C sa)) (hb : PSs X q (tSt C sb)) : PS X (.If c p q pos) (tSt C (sIfS mc sa sb)) := by
  refine psOf (ps_if hc ha hb) fun D sg H w => ?_
  obtain ⟨ow, env, o, e, R, k⟩ := w
  unfold sIfS at e
  obtain ⟨⟨c1, e1⟩, h1, e⟩ := Option.bind_eq_some_iff.mp e
  refine ⟨ow, env, c1, e1, h1, R, fun H1 ow1 R1 T1 => ?_⟩
  have fin : ∀ {s : SemS}, s e1 = some o → tSt C s D sg H1 := fun {s} es => by
    refine ⟨ow1, e1, o, es, R1, ?_⟩
    cases o with
    | nx e2 => exact fun sg2 H2 ow2 R2 T2 => k sg2 H2 ow2 R2 (T1.trans T2)
    | bk e2 => exact fun sg2 H2 ow2 R2 T2 => k sg2 H2 ow2 R2 (T1.trans T2)
    | ct e2 => exact fun sg2 H2 ow2 R2 T2 => k sg2 H2 ow2 R2 (T1.trans T2)
    | rt d e2 => exact fun v sg2 H2 ow2 R2 T2 D2 => k v sg2 H2 ow2 R2 (T1.trans T2) D2
  cases c1 with
  | true => rw [if_pos rfl] at e; exact iteT (fin e)
  | false => rw [if_neg Bool.false_ne_true] at e; exact iteF (fin e)

/-! ### while -/
def whileL (c : SemB) (b : SemS) : Nat → SemS
  | 0, _ => none
  | n + 1, env => (c env).bind fun x => if x.1 = true then (b x.2).bind fun o => match o with
      | .nx e => whileL c b n e
      | .ct e => whileL c b n e
      | .bk e => some (.nx e)
      | .rt d e => some (.rt d e)
    else some (.nx x.2)
/-- a bound that no run here reaches -/
def FUEL : Nat := 1000000000000
def sWhile (c : SemB) (b : SemS) : SemS := whileL c b FUEL
theorem st_while {c : Expr} {body : List Stmt} {mc : SemB} (hp : PassesOwn (model X.prog X.w) X.A X.env X.xe) (hc : PT X c (tT C mc)) (hb : PSs X body (tSt C sb)) : PS X (.While c body [] pos) (tSt C (sWhile mc sb)) := by
  refine psOf (ps_while hp hc hb) fun D sg H w => ?_
  obtain ⟨ow, env, o, e, R, k⟩ := w
  refine ⟨fun n sg1 H1 => ∃ ow1 env1, whileL mc sb n env1 = some o ∧ Rel C ⟨ow1, sg1, H1, env1⟩ ∧ Tr ⟨ow, sg, H, env⟩ ⟨ow1, sg1, H1, env1⟩, ⟨FUEL, ow, env, e, R, Tr.refl _⟩, fun n sg1 H1 hw => ?_⟩
  obtain ⟨ow1, env1, e1, R1, T1⟩ := hw
  cases n with
  | zero => cases e1
  | succ n =>
    rw [whileL] at e1
    obtain ⟨⟨c2, e2⟩, h2, e1⟩ := Option.bind_eq_some_iff.mp e1
    refine ⟨ow1, env1, c2, e2, h2, R1, fun H2 ow2 R2 T2 => ?_⟩
    cases c2 with
    | false => rw [if_neg Bool.false_ne_true] at e1; cases e1; exact iteF (k sg1 H2 ow2 R2 (T1.trans T2))
    | true =>
      rw [if_pos rfl] at e1
      refine iteT ?_
      obtain ⟨o3, h3, e1⟩ := Option.bind_eq_some_iff.mp e1
      refine ⟨fun sg3 H3 => ∃ ow3 env3, whileL mc sb n env3 = some o ∧ Rel C ⟨ow3, sg3, H3, env3⟩ ∧ Tr ⟨ow, sg, H, env⟩ ⟨ow3, sg3, H3, env3⟩, fun sg3 H3 ⟨ow3, env3, h⟩ => ⟨n, Nat.lt_succ_self n, ow3, env3, h⟩, ow2, e2, o3, h3, R2, ?_⟩
      cases o3 with
      | nx e3 => exact fun sg3 H3 ow3 R3 T3 => ⟨ow3, e3, e1, R3, T1.trans (T2.trans T3)⟩
      | ct e3 => exact fun sg3 H3 ow3 R3 T3 => ⟨ow3, e3, e1, R3, T1.trans (T2.trans T3)⟩
      | bk e3 => cases e1; exact fun sg3 H3 ow3 R3 T3 => k sg3 H3 ow3 R3 (T1.trans (T2.trans T3))
      | rt d e3 => cases e1; exact fun v sg3 H3 ow3 R3 T3 D3 => k v sg3 H3 ow3 R3 (T1.trans (T2.trans T3)) D3
end
end NL

/-! NL4: what is walked; for; comprehensions -/
namespace NL
open PySem PySem.Spec L2
open PyProof.Rows hiding St

/-- the items walked, the state, the slot that is locked meanwhile -/
abbrev SemI := Env → Option (List D × Env × Option Nat)
/-- more is avoided: what was new at p -/
structure Ext (C C' : Cf) (p : Ps) : Prop where
  K : C'.K = C.K
  A : ∀ a, C'.A0 a → C.A0 a ∨ p.H a = none
theorem Ext.refl {C : Cf} {p : Ps} : Ext C C p := ⟨rfl, fun _ z => .inl z⟩
theorem Ext.plus {C : Cf} {p : Ps} {a : Addr} (h : p.H a = none) : Ext C (C.plus a) p := ⟨rfl, fun b z => z.elim .inl fun e => .inr (e ▸ h)⟩
theorem Den.goX {C C' : Cf} {p q : Ps} (x : Ext C C' p) (t : Tr p q) {d : D} {v : V} (h : Den C.K p.H (Av C p.ow) d v) : Den C'.K q.H (Av C' q.ow) d v := by
  rw [x.K]
  refine Den.to (Av.sub1 t) (fun b nz n z => ?_) d v h
  rcases z with z | z
  · rcases x.A b z with w | w
    · exact n (.inl w)
    · exact nz w
  · exact Av.sub2 (C := C) t b nz n (.inr z)
/-- J walks ds wherever the state goes from p on -/
def ItOk (C : Cf) (J : It) (ds : List D) (p : Ps) : Prop := ∀ C' q, Ext C C' p → Rel C' q → Tr p q → ∀ i,
  (∀ d, ds[i]? = some d → J.go i q.H ∧ ∀ x H', J.yld i q.H x H' → Same q.H H' ∧ Den C'.K H' (Av C' q.ow) d x) ∧ (ds[i]? = none → J.stop i q.H)
def tI (C : Cf) (m : SemI) : TI := fun sg H R => ∃ ow env ds env' u, m env = some (ds, env', u) ∧ Rel C ⟨ow, sg, H, env⟩ ∧
  ∀ J H' ow', Rel C ⟨ow', sg, H', env'⟩ → Tr ⟨ow, sg, H, env⟩ ⟨ow', sg, H', env'⟩ → (∀ j, u = some j → ∃ d, env'[j]? = some (.lk d) ∧ ∀ d', env[j]? ≠ some (.lk d')) → ItOk C J ds ⟨ow', sg, H', env'⟩ → R J H'
def unlockS (u : Option Nat) (env : Env) : Env := match u with
  | none => env
  | some j => match env[j]? with
    | some (.lk d) => env.set j (.ow d)
    | _ => env
section
variable {C : Cf} {p q : Ps}
/-- from owned to locked or back -/
theorem relock (R : Rel C p) {j : Nat} {d : D} {s s' : Sl} (e : p.env[j]? = some s) (hs : (s = .ow d ∧ s' = .lk d) ∨ (s = .lk d ∧ s' = .ow d)) : Rel C { p with env := p.env.set j s' } := by
  have lt : j < p.env.length := (List.getElem?_eq_some_iff.mp e).1
  refine ⟨fun i => ?_, R.inj, R.own0, R.ownA, R.keep, R.a0, by show (p.env.set j _).length ≤ _; rw [List.length_set]; exact R.len, R.ioH⟩
  show SlOk C _ i (p.env.set j s')[i]?
  by_cases hi : i = j
  · subst hi
    rw [List.getElem?_set_self lt]
    have z := R.slot i
    rw [e] at z
    rcases hs with ⟨rfl, rfl⟩ | ⟨rfl, rfl⟩ <;> exact z
  · rw [List.getElem?_set_ne (Ne.symm hi)]
    exact R.slot i
theorem unlock_ok {u : Option Nat} (R : Rel C q) (T : Tr p q) (h : ∀ j, u = some j → ∀ d, p.env[j]? ≠ some (.lk d)) : Rel C { q with env := unlockS u q.env } ∧ Tr p { q with env := unlockS u q.env } := by
  cases u with
  | none => exact ⟨R, T⟩
  | some j =>
    have hj := h j rfl
    unfold unlockS
    dsimp only
    cases e : q.env[j]? with
    | none => exact ⟨R, T⟩
    | some s =>
      cases s with
      | lk d =>
        have lt : j < q.env.length := (List.getElem?_eq_some_iff.mp e).1
        refine ⟨relock (d := d) R e (.inr ⟨rfl, rfl⟩), ⟨T.same, T.owns, T.trk, fun i d' z => ?_, fun d' z => ?_⟩⟩
        · obtain ⟨t1, t2, t3⟩ := T.lks i d' z
          have hi : i ≠ j := by rintro rfl; exact hj d' z
          exact ⟨by show (q.env.set j _)[i]? = _; rw [List.getElem?_set_ne (Ne.symm hi)]; exact t1, t2, t3⟩
        · obtain ⟨⟨d1, t1⟩, t2, t3⟩ := T.ios d' z
          have hi : 0 ≠ j := by rintro rfl; rw [e] at t1; cases t1
          exact ⟨⟨d1, by show (q.env.set j _)[0]? = _; rw [List.getElem?_set_ne (Ne.symm hi)]; exact t1⟩, t2, t3⟩
      | _ => exact ⟨R, T⟩
end

/-! ### for -/
def forL (g : SemG) (b : SemS) : List D → SemS
  | [], env => some (.nx env)
  | d :: ds, env => (g d env).bind fun e1 => (b e1).bind fun o => match o with
    | .nx e => forL g b ds e
    | .ct e => forL g b ds e
    | .bk e => some (.nx e)
    | .rt d e => some (.rt d e)
def sFor (mi : SemI) (g : SemG) (b : SemS) : SemS := fun env => (mi env).bind fun x => (forL g b x.1 x.2.1).bind fun o => match o with
  | .nx e => some (.nx (unlockS x.2.2 e))
  | o => some o
theorem forL_no {g : SemG} {b : SemS} : ∀ {ds : List D} {env : Env} {o : Out}, forL g b ds env = some o → (∃ e, o = .nx e) ∨ ∃ d e, o = .rt d e
  | [], env, o, h => by cases h; exact .inl ⟨_, rfl⟩
  | d :: ds, env, o, h => by
    rw [forL] at h
    obtain ⟨e1, _, h⟩ := Option.bind_eq_some_iff.mp h
    obtain ⟨o1, _, h⟩ := Option.bind_eq_some_iff.mp h
    cases o1 with
    | nx e => exact forL_no h
    | ct e => exact forL_no h
    | bk e => cases h; exact .inl ⟨_, rfl⟩
    | rt d e => cases h; exact .inr ⟨_, _, rfl⟩
section
variable {X : Cx} {C : Cf} {tg iter : Expr} {body : List Stmt} {pos : Pos} {mi : SemI} {g : SemG} {sb : SemS} {vs : List Nat}
theorem st_for (hp : PassesOwn (model X.prog X.w) X.A X.env X.xe) (hc : X.calm = true) (hi : PI X tg iter (tI C mi)) (hg : PG X tg (tG C vs g)) (hb : PSs X body (tSt C sb)) (hs : ∀ x, foldedSetIterable iter X.env x = pure x) :
    PS X (.For tg iter body [] pos) (tSt C (sFor mi g sb)) := by
  refine psOf (ps_for hp hc hi hg hb hs) fun D sg H w => ?_
  obtain ⟨ow, env, o, e, R, k⟩ := w
  unfold sFor at e
  obtain ⟨⟨ds, env', u⟩, h1, e⟩ := Option.bind_eq_some_iff.mp e
  obtain ⟨oo, h2, e⟩ := Option.bind_eq_some_iff.mp e
  refine ⟨ow, env, ds, env', u, h1, R, fun J H' ow' R' T' hu it => ?_⟩
  refine ⟨fun i n sg1 H1 => n = ds.length - i ∧ ∃ ow1 env1, forL g sb (ds.drop i) env1 = some oo ∧ Rel C ⟨ow1, sg1, H1, env1⟩ ∧ Tr ⟨ow', sg, H', env'⟩ ⟨ow1, sg1, H1, env1⟩, ⟨_, rfl, ow', env', h2, R', Tr.refl _⟩, fun i n sg1 H1 hw => ?_⟩
  obtain ⟨hn, ow1, env1, e1, R1, T1⟩ := hw
  obtain ⟨ig, is⟩ := it C ⟨ow1, sg1, H1, env1⟩ .refl R1 T1 i
  cases hd : ds[i]? with
  | none =>
    have hdrop : ds.drop i = [] := List.drop_eq_nil_of_le (List.getElem?_eq_none_iff.mp hd)
    rw [hdrop] at e1
    cases e1
    cases e
    refine .inl ⟨is hd, ?_⟩
    obtain ⟨R2, T2⟩ := unlock_ok (u := u) R1 (T'.trans T1) fun j ej d z => (hu j ej).elim fun _ w => w.2 d z
    exact k _ _ _ R2 T2
  | some d =>
    obtain ⟨lt, hd'⟩ := List.getElem?_eq_some_iff.mp hd
    have hdrop : ds.drop i = d :: ds.drop (i + 1) := by rw [List.drop_eq_getElem_cons lt, hd']
    rw [hdrop, forL] at e1
    obtain ⟨e2, g2, e1⟩ := Option.bind_eq_some_iff.mp e1
    obtain ⟨o3, g3, e1⟩ := Option.bind_eq_some_iff.mp e1
    obtain ⟨jg, jy⟩ := ig d hd
    refine .inr ⟨jg, fun sg3 H3 => ∃ ow3 env3, forL g sb (ds.drop (i + 1)) env3 = some oo ∧ Rel C ⟨ow3, sg3, H3, env3⟩ ∧ Tr ⟨ow', sg, H', env'⟩ ⟨ow3, sg3, H3, env3⟩, fun sg3 H3 ⟨ow3, env3, h⟩ => ⟨ds.length - (i + 1), by omega, rfl, ow3, env3, h⟩, fun x H2 hy => ?_⟩
    obtain ⟨sm, dn⟩ := jy x H2 hy
    obtain ⟨R2, T2⟩ := R1.grow sm
    refine ⟨ow1, env1, d, e2, g2, R2, dn, fun sg3 H3 ow3 R3 T3 _ => ⟨ow3, e2, o3, g3, R3, ?_⟩⟩
    have Tall := T1.trans (T2.trans T3)
    cases o3 with
    | nx e4 => exact fun sg4 H4 ow4 R4 T4 => ⟨ow4, e4, e1, R4, Tall.trans T4⟩
    | ct e4 => exact fun sg4 H4 ow4 R4 T4 => ⟨ow4, e4, e1, R4, Tall.trans T4⟩
    | bk e4 =>
      cases e1
      cases e
      intro sg4 H4 ow4 R4 T4
      obtain ⟨R5, T5⟩ := unlock_ok (u := u) R4 (T'.trans (Tall.trans T4)) fun j ej d z => (hu j ej).elim fun _ w => w.2 d z
      exact k _ _ _ R5 T5
    | rt dd e4 =>
      cases e1
      cases e
      exact fun v sg4 H4 ow4 R4 T4 D4 => k v sg4 H4 ow4 R4 (T'.trans (Tall.trans T4)) D4
end

/-! ### what is walked -/
def rangeD (lo : Int) : Nat → List D
  | 0 => []
  | n + 1 => .int lo :: rangeD (lo + 1) n
def rangeC (lo c : Int) : Nat → List D
  | 0 => []
  | n + 1 => .int lo :: rangeC (lo + c) c n
def enumD : Nat → List D → List D
  | _, [] => []
  | i, d :: l => .tup [.int i, d] :: enumD (i + 1) l
def zipD : List D → List D → List D
  | a :: l, b :: m => .tup [a, b] :: zipD l m
  | _, _ => []
def signsD : List Nat → List D
  | [] => []
  | c :: l => .str ⟨#[c]⟩ :: signsD l
theorem rangeD_get : ∀ (n : Nat) (lo : Int) (i : Nat), (rangeD lo n)[i]? = if i < n then some (.int (lo + i)) else none
  | 0, lo, i => by simp [rangeD]
  | n + 1, lo, 0 => by simp [rangeD]
  | n + 1, lo, i + 1 => by
    rw [rangeD, List.getElem?_cons_succ, rangeD_get n (lo + 1) i]
    by_cases h : i < n
    · rw [if_pos h, if_pos (by omega)]; congr 2; omega
    · rw [if_neg h, if_neg (by omega)]
theorem rangeD_length : ∀ (n : Nat) (lo : Int), (rangeD lo n).length = n
  | 0, _ => rfl
  | n + 1, lo => by rw [rangeD, List.length_cons, rangeD_length n]
theorem rangeC_get (c : Int) : ∀ (n : Nat) (lo : Int) (i : Nat), (rangeC lo c n)[i]? = if i < n then some (.int (lo + i * c)) else none
  | 0, lo, i => by simp [rangeC]
  | n + 1, lo, 0 => by simp [rangeC]
  | n + 1, lo, i + 1 => by
    rw [rangeC, List.getElem?_cons_succ, rangeC_get c n (lo + c) i]
    by_cases h : i < n
    · rw [if_pos h, if_pos (by omega)]
      congr 2
      rw [show ((i + 1 : Nat) : Int) = (i : Int) + 1 by omega, Int.add_mul]
      omega
    · rw [if_neg h, if_neg (by omega)]
theorem enumD_get : ∀ (l : List D) (k i : Nat), (enumD k l)[i]? = (l[i]?).map fun d => .tup [.int ((k + i : Nat) : Int), d]
  | [], k, i => by simp [enumD]
  | d :: l, k, 0 => by simp [enumD]
  | d :: l, k, i + 1 => by
    rw [enumD, List.getElem?_cons_succ, List.getElem?_cons_succ, enumD_get l (k + 1) i, show k + 1 + i = k + (i + 1) by omega]
theorem zipD_get : ∀ (l m : List D) (i : Nat), (zipD l m)[i]? = (l[i]?).bind fun a => (m[i]?).map fun b => .tup [a, b]
  | [], m, i => by simp [zipD]
  | a :: l, [], i => by simp [zipD]
  | a :: l, b :: m, 0 => by simp [zipD]
  | a :: l, b :: m, i + 1 => by
    rw [zipD, List.getElem?_cons_succ, List.getElem?_cons_succ, List.getElem?_cons_succ, zipD_get l m i]
theorem signsD_get : ∀ (l : List Nat) (i : Nat), (signsD l)[i]? = (l[i]?).map fun c => .str ⟨#[c]⟩
  | [], i => by simp [signsD]
  | c :: l, 0 => by simp [signsD]
  | c :: l, i + 1 => by rw [signsD, List.getElem?_cons_succ, List.getElem?_cons_succ, signsD_get l i]

section
variable {C : Cf} {p : Ps}
theorem it_list {a : Addr} {l : List D} (h : ∀ C' q, Ext C C' p → Rel C' q → Tr p q → ∃ xs, SqL C.K q.H a xs ∧ Dens C'.K q.H (Av C' q.ow) l xs) : ItOk C (Itl C.K a) l p := fun C' q E R T i => by
  obtain ⟨xs, s, d⟩ := h C' q E R T
  refine ⟨fun e he => ?_, fun he => ⟨xs, s, List.getElem?_eq_none_iff.mp (d.none_of he)⟩⟩
  obtain ⟨x, hx, dx⟩ := d.get he
  refine ⟨⟨xs, x, s, hx⟩, fun y H' hy => ?_⟩
  obtain ⟨rfl, hy⟩ := hy
  have e2 := hy xs s
  rw [hx] at e2; cases e2
  exact ⟨Same.refl _, dx⟩
theorem it_tup {a : Addr} {l : List D} (h : ∀ C' q, Ext C C' p → Rel C' q → Tr p q → ∃ xs, SqT C.K q.H a xs ∧ Dens C'.K q.H (Av C' q.ow) l xs) : ItOk C (Itt C.K a) l p := fun C' q E R T i => by
  obtain ⟨xs, s, d⟩ := h C' q E R T
  refine ⟨fun e he => ?_, fun he => ⟨xs, s, List.getElem?_eq_none_iff.mp (d.none_of he)⟩⟩
  obtain ⟨x, hx, dx⟩ := d.get he
  refine ⟨⟨xs, x, s, hx⟩, fun y H' hy => ?_⟩
  obtain ⟨rfl, hy⟩ := hy
  have e2 := hy xs s
  rw [hx] at e2; cases e2
  exact ⟨Same.refl _, dx⟩
end
theorem PI.or {X : Cx} {tg e : Expr} {w w' : TI} (h : PI X tg e w) (h' : PI X tg e w') : PI X tg e (fun sg H R => w sg H R ∨ w' sg H R) := ⟨fun pins s σ H R I q => by
  rcases q with q | q
  · exact h.run pins s σ H R I q
  · exact h'.run pins s σ H R I q⟩
theorem piOf {X : Cx} {tg e : Expr} {w w' : TI} (h : PI X tg e w) (k : ∀ sg H R, w' sg H R → w sg H R) : PI X tg e w' := ⟨fun pins s σ H R I q => h.run pins s σ H R I (k _ _ _ q)⟩
def iVal (d : D) : Option (List D) := match d with
  | .lst l => some l
  | .fl l => some l
  | .tup l => some l
  | .str x => some (signsD x.cps.toList)
  | _ => none
def sSeqI (m : Sem) : SemI := fun env => (m env).bind fun x => match x.1 with
  | .val d => (iVal d).bind fun l => some (l, x.2, none)
  | .slot j => match x.2[j]? with
    | some (.ow (.lst l)) => some (l, x.2.set j (.lk (.lst l)), some j)
    | some (.lk (.lst l)) => some (l, x.2, none)
    | _ => none
section
variable {X : Cx} {C : Cf} {tg e a b c : Expr} {pos p' : Pos} {m : Sem} {ms : SemR}
theorem i_seq (hK : C.K = X.K) (h : PE X e (tS C m)) : PI X tg e (tI C (sSeqI m)) := by
  refine piOf (PI.or (pi_list h) (PI.or (pi_tup h) (pi_str h))) fun sg H R w => ?_
  obtain ⟨ow, env, ds, env', u, e, R0, k⟩ := w
  unfold sSeqI at e
  obtain ⟨⟨r, e1⟩, h1, e⟩ := Option.bind_eq_some_iff.mp e
  dsimp only at e
  cases r with
  | val d =>
    dsimp only at e
    obtain ⟨l, h2, e⟩ := Option.bind_eq_some_iff.mp e
    cases e
    cases d with
    | lst l' =>
      cases h2
      refine .inl ⟨ow, env, _, _, h1, R0, fun v H1 ow1 R1 T1 D1 => ?_⟩
      obtain ⟨a, xs, e1', s1, r1⟩ := bLst (Den.b D1)
      refine ⟨a, e1', ⟨xs, SqL.of s1⟩, k _ _ _ R1 T1 (fun j z => nomatch z) ?_⟩
      rw [← hK]
      refine it_list fun C' q Eq Rq Tq => ?_
      obtain ⟨a2, ys, e2, s2, r2⟩ := bLst (Den.b (Den.goX (C := C) Eq Tq D1))
      rw [e1'] at e2; cases e2
      exact ⟨ys, SqL.of s2, r2⟩
    | fl l' =>
      cases h2
      refine .inl ⟨ow, env, _, _, h1, R0, fun v H1 ow1 R1 T1 D1 => ?_⟩
      obtain ⟨a, xs, e1', s1, r1⟩ := bFl (Den.b D1)
      refine ⟨a, e1', ⟨xs, hK ▸ s1⟩, k _ _ _ R1 T1 (fun j z => nomatch z) ?_⟩
      rw [← hK]
      refine it_list fun C' q Eq Rq Tq => ?_
      obtain ⟨a2, ys, e2, s2, r2⟩ := bFl (Den.b (Den.goX (C := C) Eq Tq D1))
      rw [e1'] at e2; cases e2
      exact ⟨ys, Eq.K ▸ s2, r2⟩
    | tup l' =>
      cases h2
      refine .inr (.inl ⟨ow, env, _, _, h1, R0, fun v H1 ow1 R1 T1 D1 => ?_⟩)
      obtain ⟨a, xs, e1', s1, r1⟩ := bTup (Den.b D1)
      refine ⟨a, e1', ⟨xs, hK ▸ s1⟩, k _ _ _ R1 T1 (fun j z => nomatch z) ?_⟩
      rw [← hK]
      refine it_tup fun C' q Eq Rq Tq => ?_
      obtain ⟨a2, ys, e2, s2, r2⟩ := bTup (Den.b (Den.goX (C := C) Eq Tq D1))
      rw [e1'] at e2; cases e2
      exact ⟨ys, Eq.K ▸ s2, r2⟩
    | str x =>
      cases h2
      refine .inr (.inr ⟨ow, env, _, _, h1, R0, fun v H1 ow1 R1 T1 D1 => ?_⟩)
      have D1 : v = .str x := by have h : Den C.K H1 (Av C ow1) (.str x) v := D1; rwa [Den] at h
      refine ⟨x, D1, k _ _ _ R1 T1 (fun j z => nomatch z) fun C' q Eq Rq Tq i => ⟨fun d hd => ?_, fun hd => ?_⟩⟩
      · rw [signsD_get] at hd
        obtain ⟨ch, hc, hd⟩ := Option.map_eq_some_iff.mp hd
        subst hd
        have lt : i < x.cps.size := by
          have := (List.getElem?_eq_some_iff.mp hc).1
          simpa using this
        refine ⟨lt, fun y H' hy => ?_⟩
        obtain ⟨rfl, c2, hc2, rfl⟩ := hy
        have : x.cps[i]? = some ch := by simpa using hc
        rw [this] at hc2; cases hc2
        exact ⟨Same.refl _, dStr⟩
      · rw [signsD_get, Option.map_eq_none_iff] at hd
        have := List.getElem?_eq_none_iff.mp hd
        show x.cps.size ≤ i
        simpa using this
    | _ => cases h2
  | slot j =>
    dsimp only at e
    cases q : e1[j]? with
    | none => rw [q] at e; cases e
    | some sl =>
      rw [q] at e
      cases sl with
      | ow d =>
        cases d with
        | lst l =>
          simp only [Option.some.injEq, Prod.mk.injEq] at e
          obtain ⟨rfl, rfl, rfl⟩ := e
          refine .inl ⟨ow, env, _, _, h1, R0, fun v H1 ow1 R1 T1 D1 => ?_⟩
          have s := R1.slot j
          have q' : (⟨ow1, sg, H1, e1⟩ : Ps).env[j]? = some (.ow (.lst l)) := q
          rw [q'] at s
          obtain ⟨a, o1, o2, o3, _⟩ := s
          have D1 : sg[j]? = some (some v) := D1
          have o2 : sg[j]? = some (some (.ref a)) := o2
          rw [D1] at o2; cases o2
          obtain ⟨xs, hx, dx⟩ := o3
          have R2 := relock (s' := .lk (.lst l)) (d := .lst l) R1 q' (.inl ⟨rfl, rfl⟩)
          have lt : j < e1.length := (List.getElem?_eq_some_iff.mp q).1
          have nlk : ∀ d', env[j]? ≠ some (.lk d') := fun d' z => by
            have t := (T1.lks j d' z).1
            rw [q'] at t; cases t
          have T2 : Tr ⟨ow, sg, H, env⟩ ⟨ow1, sg, H1, e1.set j (.lk (.lst l))⟩ := by
            refine ⟨T1.same, T1.owns, T1.trk, fun i d' z => ?_, fun d' z => ?_⟩
            · obtain ⟨t1, t2, t3⟩ := T1.lks i d' z
              have hi : i ≠ j := by rintro rfl; exact nlk d' z
              exact ⟨by show (e1.set j _)[i]? = _; rw [List.getElem?_set_ne (Ne.symm hi)]; exact t1, t2, t3⟩
            · obtain ⟨⟨d1, t1⟩, t2, t3⟩ := T1.ios d' z
              have hi : 0 ≠ j := by rintro rfl; rw [q'] at t1; cases t1
              exact ⟨⟨d1, by show (e1.set j _)[0]? = _; rw [List.getElem?_set_ne (Ne.symm hi)]; exact t1⟩, t2, t3⟩
          refine ⟨a, rfl, ⟨xs, SqL.of hx⟩, k _ _ _ R2 T2 (fun j' z => by cases z; exact ⟨_, List.getElem?_set_self lt, nlk⟩) ?_⟩
          rw [← hK]
          refine it_list fun C' q2 Eq Rq Tq => ?_
          obtain ⟨t1, t2, t3⟩ := Tq.lks j (.lst l) (List.getElem?_set_self lt)
          have s2 := Rq.slot j
          rw [t1] at s2
          obtain ⟨b, b1, b2, b3, _⟩ := s2
          rw [t2] at b1
          have b1 : ow1 j = some b := b1
          have o1 : ow1 j = some a := o1
          rw [o1] at b1; cases b1
          obtain ⟨ys, hy, dy⟩ := b3
          exact ⟨ys, SqL.of hy, dy⟩
        | _ => cases e
      | lk d =>
        cases d with
        | lst l =>
          simp only [Option.some.injEq, Prod.mk.injEq] at e
          obtain ⟨rfl, rfl, rfl⟩ := e
          refine .inl ⟨ow, env, _, _, h1, R0, fun v H1 ow1 R1 T1 D1 => ?_⟩
          have s := R1.slot j
          have q' : (⟨ow1, sg, H1, e1⟩ : Ps).env[j]? = some (.lk (.lst l)) := q
          rw [q'] at s
          obtain ⟨a, o1, o2, o3, _⟩ := s
          have D1 : sg[j]? = some (some v) := D1
          have o2 : sg[j]? = some (some (.ref a)) := o2
          rw [D1] at o2; cases o2
          obtain ⟨xs, hx, dx⟩ := o3
          refine ⟨a, rfl, ⟨xs, SqL.of hx⟩, k _ _ _ R1 T1 (fun j' z => nomatch z) ?_⟩
          rw [← hK]
          refine it_list fun C' q2 Eq Rq Tq => ?_
          obtain ⟨t1, t2, t3⟩ := Tq.lks j (.lst l) q'
          have s2 := Rq.slot j
          rw [t1] at s2
          obtain ⟨b, b1, b2, b3, _⟩ := s2
          rw [t2] at b1
          have b1 : ow1 j = some b := b1
          have o1 : ow1 j = some a := o1
          rw [o1] at b1; cases b1
          obtain ⟨ys, hy, dy⟩ := b3
          exact ⟨ys, SqL.of hy, dy⟩
        | _ => cases e
      | _ => cases e
def inR (i : Int) : Bool := decide (-(2 ^ 62) ≤ i) && decide (i < 2 ^ 62)
theorem inR_ok {i : Int} (h : inR i = true) : -(2 ^ 62) ≤ i ∧ i < 2 ^ 62 := by
  unfold inR at h
  simpa using h
def sRangeI (ms : SemR) : SemI := fun env => (ms env).bind fun x => match x.1 with
  | [.val (.int j)] => if inR j then some (rangeD 0 j.toNat, x.2, none) else none
  | [.val (.int i), .val (.int j)] => if inR i && inR j then some (rangeD i (j - i).toNat, x.2, none) else none
  | [.val (.int i), .val (.int j), .val (.int c)] => if decide (c ≠ 0) && decide (c.natAbs < 1073741824) && Builtin.Range.small i j c then some (rangeC i c (Builtin.Range.rangeSize i j c).toNat, x.2, none) else none
  | _ => none
theorem it_range {p : Ps} (lo : Int) (n : Nat) : ItOk C (Itr lo n) (rangeD lo n) p := fun C' q E R T i => by
  rw [rangeD_get]
  refine ⟨fun d hd => ?_, fun hd => ?_⟩
  · split at hd
    · rename_i lt
      cases hd
      exact ⟨lt, fun x H' ⟨e1, e2⟩ => by subst e1 e2; exact ⟨Same.refl _, dInt⟩⟩
    · cases hd
  · split at hd
    · cases hd
    · rename_i lt; exact Nat.le_of_not_lt lt
theorem it_rangeC {p : Ps} (lo c : Int) (n : Nat) : ItOk C (Itc lo c n) (rangeC lo c n) p := fun C' q E R T i => by
  rw [rangeC_get]
  refine ⟨fun d hd => ?_, fun hd => ?_⟩
  · split at hd
    · rename_i lt
      cases hd
      exact ⟨lt, fun x H' ⟨e1, e2⟩ => by subst e1 e2; exact ⟨Same.refl _, dInt⟩⟩
    · cases hd
  · split at hd
    · cases hd
    · rename_i lt; exact Nat.le_of_not_lt lt
theorem rden_int {p : Ps} {i : Int} {v : V} (h : RDen C p (.val (.int i)) v) : v = .int i := by have h : Den C.K p.H (Av C p.ow) (.int i) v := h; rwa [Den] at h
/-- each call of range has one, two or three arguments -/
def rlen (ms : SemR) (n : Nat) : Prop := ∀ env rs env', ms env = some (rs, env') → rs.length = n
theorem i_range1 (hg : Gl X "range") (hm : X.mg "range" = none) (ha : PA X [a] (tR C ms)) (hl : rlen ms 1) (hs : starEach [a] X.env = [(false, eval a X.env)]) : PI X tg (.Call (.Name "range" p') [a] [] pos) (tI C (sRangeI ms)) := by
  refine piOf (pi_range1 hg hm ha hs) fun sg H R w => ?_
  obtain ⟨ow, env, ds, env', u, e, R0, k⟩ := w
  unfold sRangeI at e
  obtain ⟨⟨rs, e1⟩, h1, e⟩ := Option.bind_eq_some_iff.mp e
  have hn := hl _ _ _ h1
  refine ⟨ow, env, rs, e1, h1, R0, fun vs H1 ow1 R1 T1 D1 => ?_⟩
  dsimp only at e
  split at e
  · rename_i j
    split at e
    · rename_i hj
      cases e
      obtain ⟨x, t, rfl, d1, rfl⟩ := D1
      obtain ⟨b1, b2⟩ := inR_ok hj
      exact ⟨j, by rw [rden_int d1], b1, b2, k _ _ _ R1 T1 (fun _ z => nomatch z) (it_range 0 _)⟩
    · cases e
  · cases hn
  · cases hn
  · cases e
theorem i_range2 (hg : Gl X "range") (hm : X.mg "range" = none) (ha : PA X [a, b] (tR C ms)) (hl : rlen ms 2) (hs : starEach [a, b] X.env = [(false, eval a X.env), (false, eval b X.env)]) (hs2 : starEach [b] X.env = [(false, eval b X.env)]) :
    PI X tg (.Call (.Name "range" p') [a, b] [] pos) (tI C (sRangeI ms)) := by
  refine piOf (pi_range2 hg hm ha hs hs2) fun sg H R w => ?_
  obtain ⟨ow, env, ds, env', u, e, R0, k⟩ := w
  unfold sRangeI at e
  obtain ⟨⟨rs, e1⟩, h1, e⟩ := Option.bind_eq_some_iff.mp e
  have hn := hl _ _ _ h1
  refine ⟨ow, env, rs, e1, h1, R0, fun vs H1 ow1 R1 T1 D1 => ?_⟩
  dsimp only at e
  split at e
  · cases hn
  · rename_i i j
    split at e
    · rename_i hj
      rw [Bool.and_eq_true] at hj
      cases e
      obtain ⟨x, t, rfl, d1, y, t2, rfl, d2, rfl⟩ := D1
      obtain ⟨b1, b2⟩ := inR_ok hj.1
      obtain ⟨b3, b4⟩ := inR_ok hj.2
      exact ⟨i, j, by rw [rden_int d1, rden_int d2], ⟨b1, b2, b3, b4⟩, k _ _ _ R1 T1 (fun _ z => nomatch z) (it_range _ _)⟩
    · cases e
  · cases hn
  · cases e
theorem i_range3 (hg : Gl X "range") (hm : X.mg "range" = none) (ha : PA X [a, b, c] (tR C ms)) (hl : rlen ms 3) (hs : starEach [a, b, c] X.env = (false, eval a X.env) :: starEach [b, c] X.env) (hpl : (backTo pos (starEach [b, c] X.env)).any (·.1) = false) :
    PI X tg (.Call (.Name "range" p') [a, b, c] [] pos) (tI C (sRangeI ms)) := by
  refine piOf (pi_range3 hg hm ha hs hpl) fun sg H R w => ?_
  obtain ⟨ow, env, ds, env', u, e, R0, k⟩ := w
  unfold sRangeI at e
  obtain ⟨⟨rs, e1⟩, h1, e⟩ := Option.bind_eq_some_iff.mp e
  have hn := hl _ _ _ h1
  refine ⟨ow, env, rs, e1, h1, R0, fun vs H1 ow1 R1 T1 D1 => ?_⟩
  dsimp only at e
  split at e
  · cases hn
  · cases hn
  · rename_i i j c
    split at e
    · rename_i hj
      simp only [Bool.and_eq_true, decide_eq_true_eq] at hj
      cases e
      obtain ⟨x, t, rfl, d1, y, t2, rfl, d2, z, t3, rfl, d3, rfl⟩ := D1
      have nn : 0 ≤ Builtin.Range.rangeSize i j c := by
        unfold Builtin.Range.rangeSize
        split
        · rename_i hc
          split
          · have := Int.ediv_nonneg (a := j - i - 1) (b := c) (by omega) (by omega); omega
          · exact Int.le_refl 0
        · split
          · have := Int.ediv_nonneg (a := i - j - 1) (b := -c) (by omega) (by omega); omega
          · exact Int.le_refl 0
      exact ⟨i, j, c, _, by rw [rden_int d1, rden_int d2, rden_int d3], ⟨hj.1.1, hj.1.2, hj.2, by omega⟩, k _ _ _ R1 T1 (fun _ z => nomatch z) (it_rangeC _ _ _)⟩
    · cases e
  · cases e
def sEnumI (ms : SemR) : SemI := fun env => (ms env).bind fun x => (forces x.1 x.2).bind fun y => match y.1 with
  | [.lst l] => some (enumD 0 l, y.2, none)
  | _ => none
theorem i_enum {tpos : Pos} {elts : List Expr} {kk : Nat} (hK : C.K = X.K) (hg : Gl X "enumerate") (hm : X.mg "enumerate" = none) (ha : PA X [a] (tR C ms)) (hs : starEach [a] X.env = [(false, eval a X.env)]) :
    PI X (.Tuple elts kk tpos) (.Call (.Name "enumerate" p') [a] [] pos) (tI C (sEnumI ms)) := by
  refine piOf (pi_enum hg hm ha hs) fun sg H R w => ?_
  obtain ⟨ow, env, ds, env', u, e, R0, k⟩ := w
  unfold sEnumI at e
  obtain ⟨⟨rs, e1⟩, h1, e⟩ := Option.bind_eq_some_iff.mp e
  obtain ⟨⟨dl, e2⟩, h2, e⟩ := Option.bind_eq_some_iff.mp e
  refine ⟨ow, env, rs, e1, h1, R0, fun vs H1 ow1 R1 T1 D1 => ?_⟩
  obtain ⟨ow2, R2, T2, D2⟩ := forces_ok R1 D1 h2
  dsimp only at e
  split at e
  · rename_i l
    cases e
    rw [Dens] at D2
    obtain ⟨x, t, rfl, d1, d2⟩ := D2
    rw [Dens] at d2
    subst d2
    obtain ⟨a, xs, rfl, s1, r1⟩ := bLst d1.b
    refine ⟨a, xs, rfl, SqL.of s1, k _ _ _ R2 (T1.trans T2) (fun _ z => nomatch z) ?_⟩
    rw [← hK]
    intro C' q Eq Rq Tq i
    obtain ⟨a2, ys, ea, s2, r2⟩ := bLst (Den.b (Den.goX (C := C) (p := ⟨ow2, sg, H1, _⟩) Eq Tq d1))
    cases ea
    rw [enumD_get]
    refine ⟨fun d hd => ?_, fun hd => ?_⟩
    · obtain ⟨d0, h0, rfl⟩ := Option.map_eq_some_iff.mp hd
      obtain ⟨y, hy, dy⟩ := r2.get h0
      refine ⟨⟨ys, y, SqL.of s2, hy⟩, fun v H' hv => ?_⟩
      obtain ⟨T, z, rfl, hT, rfl, hz⟩ := hv
      have ez := hz ys (SqL.of s2)
      rw [hy] at ez; cases ez
      rw [Nat.zero_add]
      exact newT Rq hT (.cons dInt (.one dy))
    · rw [Option.map_eq_none_iff] at hd
      exact ⟨ys, SqL.of s2, List.getElem?_eq_none_iff.mp (r2.none_of hd)⟩
  · cases e
def sZipI (ms : SemR) : SemI := fun env => (ms env).bind fun x => (forces x.1 x.2).bind fun y => match y.1 with
  | [.lst l, .lst m] => some (zipD l m, y.2, none)
  | [.tup l, .tup m] => some (zipD l m, y.2, none)
  | _ => none
theorem i_zip {tpos : Pos} {elts : List Expr} {kk : Nat} (hK : C.K = X.K) (hg : Gl X "zip") (hm : X.mg "zip" = none) (ha : PA X [a, b] (tR C ms)) (hs : starEach [a, b] X.env = (false, eval a X.env) :: starEach [b] X.env) (hpl : (backTo pos (starEach [b] X.env)).any (·.1) = false) :
    PI X (.Tuple elts kk tpos) (.Call (.Name "zip" p') [a, b] [] pos) (tI C (sZipI ms)) := by
  refine piOf (RZ.pi_zipA hg hm ha hs hpl) fun sg H R w => ?_
  obtain ⟨ow, env, ds, env', u, e, R0, k⟩ := w
  unfold sZipI at e
  obtain ⟨⟨rs, e1⟩, h1, e⟩ := Option.bind_eq_some_iff.mp e
  obtain ⟨⟨dl, e2⟩, h2, e⟩ := Option.bind_eq_some_iff.mp e
  refine ⟨ow, env, rs, e1, h1, R0, fun vs H1 ow1 R1 T1 D1 => ?_⟩
  obtain ⟨ow2, R2, T2, D2⟩ := forces_ok R1 D1 h2
  dsimp only at e
  split at e
  · rename_i l m
    cases e
    rw [Dens] at D2
    obtain ⟨x, t, rfl, d1, d2⟩ := D2
    rw [Dens] at d2
    obtain ⟨x2, t2, rfl, d2, d3⟩ := d2
    rw [Dens] at d3
    subst d3
    obtain ⟨a, xs, rfl, s1, r1⟩ := bLst d1.b
    obtain ⟨b, ys, rfl, s2, r2⟩ := bLst d2.b
    refine ⟨a, b, xs, ys, rfl, .inl ⟨SqL.of s1, SqL.of s2, k _ _ _ R2 (T1.trans T2) (fun _ z => nomatch z) ?_⟩⟩
    rw [← hK]
    intro C' q Eq Rq Tq i
    obtain ⟨a', xs', ea, s1', r1'⟩ := bLst (Den.b (Den.goX (C := C) (p := ⟨ow2, sg, H1, _⟩) Eq Tq d1))
    cases ea
    obtain ⟨b', ys', eb, s2', r2'⟩ := bLst (Den.b (Den.goX (C := C) (p := ⟨ow2, sg, H1, _⟩) Eq Tq d2))
    cases eb
    rw [zipD_get]
    refine ⟨fun d hd => ?_, fun hd => ?_⟩
    · obtain ⟨d0, h0, hd⟩ := Option.bind_eq_some_iff.mp hd
      obtain ⟨d1, h3, rfl⟩ := Option.map_eq_some_iff.mp hd
      obtain ⟨x, hx, dx⟩ := r1'.get h0
      obtain ⟨y, hy, dy⟩ := r2'.get h3
      refine ⟨⟨xs', ys', x, y, SqL.of s1', SqL.of s2', hx, hy⟩, fun v H' hv => ?_⟩
      obtain ⟨T, x', y', rfl, hT, rfl, hz, hw⟩ := hv
      have ez := hz xs' (SqL.of s1')
      rw [hx] at ez; cases ez
      have ew := hw ys' (SqL.of s2')
      rw [hy] at ew; cases ew
      exact newT Rq hT (.cons dx (.one dy))
    · refine ⟨xs', ys', SqL.of s1', SqL.of s2', ?_⟩
      cases h0 : l[i]? with
      | none => exact .inl (List.getElem?_eq_none_iff.mp (r1'.none_of h0))
      | some d0 =>
        rw [h0] at hd
        have hd : (m[i]?).map _ = none := hd
        rw [Option.map_eq_none_iff] at hd
        exact .inr (List.getElem?_eq_none_iff.mp (r2'.none_of hd))
  · rename_i l m
    cases e
    rw [Dens] at D2
    obtain ⟨x, t, rfl, d1, d2⟩ := D2
    rw [Dens] at d2
    obtain ⟨x2, t2, rfl, d2, d3⟩ := d2
    rw [Dens] at d3
    subst d3
    obtain ⟨a, xs, rfl, s1, r1⟩ := bTup d1.b
    obtain ⟨b, ys, rfl, s2, r2⟩ := bTup d2.b
    refine ⟨a, b, xs, ys, rfl, .inr ⟨hK ▸ s1, hK ▸ s2, k _ _ _ R2 (T1.trans T2) (fun _ z => nomatch z) ?_⟩⟩
    rw [← hK]
    intro C' q Eq Rq Tq i
    obtain ⟨a', xs', ea, s1'', r1'⟩ := bTup (Den.b (Den.goX (C := C) (p := ⟨ow2, sg, H1, _⟩) Eq Tq d1))
    cases ea
    obtain ⟨b', ys', eb, s2'', r2'⟩ := bTup (Den.b (Den.goX (C := C) (p := ⟨ow2, sg, H1, _⟩) Eq Tq d2))
    cases eb
    have s1' : SqT C.K q.H a xs' := Eq.K ▸ s1''
    have s2' : SqT C.K q.H b ys' := Eq.K ▸ s2''
    rw [zipD_get]
    refine ⟨fun d hd => ?_, fun hd => ?_⟩
    · obtain ⟨d0, h0, hd⟩ := Option.bind_eq_some_iff.mp hd
      obtain ⟨d1, h3, rfl⟩ := Option.map_eq_some_iff.mp hd
      obtain ⟨x, hx, dx⟩ := r1'.get h0
      obtain ⟨y, hy, dy⟩ := r2'.get h3
      refine ⟨⟨xs', ys', x, y, s1', s2', hx, hy⟩, fun v H' hv => ?_⟩
      obtain ⟨T, x', y', rfl, hT, rfl, hz, hw⟩ := hv
      have ez := hz xs' s1'
      rw [hx] at ez; cases ez
      have ew := hw ys' s2'
      rw [hy] at ew; cases ew
      exact newT Rq hT (.cons dx (.one dy))
    · refine ⟨xs', ys', s1', s2', ?_⟩
      cases h0 : l[i]? with
      | none => exact .inl (List.getElem?_eq_none_iff.mp (r1'.none_of h0))
      | some d0 =>
        rw [h0] at hd
        have hd : (m[i]?).map _ = none := hd
        rw [Option.map_eq_none_iff] at hd
        exact .inr (List.getElem?_eq_none_iff.mp (r2'.none_of hd))
  · cases e
end
end NL

/-! NL5: list comprehensions -/
namespace NL
open PySem PySem.Spec L2
open PyProof.Rows hiding St

def wipeE (env : Env) : List Nat → Env
  | [] => env
  | v :: vs => (wipeE env vs).set v .no
def restoreE (env1 env : Env) : List Nat → Env
  | [] => env
  | v :: vs => (restoreE env1 env vs).set v (env1.getD v .no)
/-- the block's own slots hold nothing that is owned -/
def wipable (env : Env) (vs : List Nat) : Bool := vs.all fun v => match env[v]? with
  | some .no => true
  | some (.sh _) => true
  | _ => false
theorem wipeE_length (env : Env) : ∀ vs : List Nat, (wipeE env vs).length = env.length
  | [] => rfl
  | v :: vs => by rw [wipeE, List.length_set, wipeE_length env vs]
theorem restoreE_length (env1 env : Env) : ∀ vs : List Nat, (restoreE env1 env vs).length = env.length
  | [] => rfl
  | v :: vs => by rw [restoreE, List.length_set, restoreE_length env1 env vs]
theorem wipeE_get (env : Env) (j : Nat) : ∀ vs : List Nat, (wipeE env vs)[j]? = if j ∈ vs then (if j < env.length then some .no else none) else env[j]?
  | [] => by simp [wipeE]
  | v :: vs => by
    rw [wipeE]
    by_cases hj : v = j
    · subst hj
      rw [if_pos List.mem_cons_self]
      by_cases hl : v < env.length
      · rw [if_pos hl, List.getElem?_set_self (by rw [wipeE_length]; exact hl)]
      · rw [if_neg hl, List.getElem?_eq_none (by rw [List.length_set, wipeE_length]; omega)]
    · rw [List.getElem?_set_ne hj, wipeE_get env j vs]
      by_cases hm : j ∈ vs
      · rw [if_pos hm, if_pos (List.mem_cons_of_mem _ hm)]
      · rw [if_neg hm, if_neg (by simp only [List.mem_cons, not_or]; exact ⟨fun e => hj e.symm, hm⟩)]
theorem restoreE_get (env1 env : Env) (j : Nat) : ∀ vs : List Nat, (restoreE env1 env vs)[j]? = if j ∈ vs then (if j < env.length then some (env1.getD j .no) else none) else env[j]?
  | [] => by simp [restoreE]
  | v :: vs => by
    rw [restoreE]
    by_cases hj : v = j
    · subst hj
      rw [if_pos List.mem_cons_self]
      by_cases hl : v < env.length
      · rw [if_pos hl, List.getElem?_set_self (by rw [restoreE_length]; exact hl)]
      · rw [if_neg hl, List.getElem?_eq_none (by rw [List.length_set, restoreE_length]; omega)]
    · rw [List.getElem?_set_ne hj, restoreE_get env1 env j vs]
      by_cases hm : j ∈ vs
      · rw [if_pos hm, if_pos (List.mem_cons_of_mem _ hm)]
      · rw [if_neg hm, if_neg (by simp only [List.mem_cons, not_or]; exact ⟨fun e => hj e.symm, hm⟩)]
theorem wipe_get (sg : L2.St) (j : Nat) : ∀ vs : List Nat, (wipe sg vs)[j]? = if j ∈ vs then (if j < sg.length then some none else none) else sg[j]?
  | [] => by simp [wipe]
  | v :: vs => by
    rw [wipe]
    by_cases hj : v = j
    · subst hj
      rw [if_pos List.mem_cons_self]
      by_cases hl : v < sg.length
      · rw [if_pos hl, List.getElem?_set_self (by rw [wipe_length]; exact hl)]
      · rw [if_neg hl, List.getElem?_eq_none (by rw [List.length_set, wipe_length]; omega)]
    · rw [List.getElem?_set_ne hj, wipe_get sg j vs]
      by_cases hm : j ∈ vs
      · rw [if_pos hm, if_pos (List.mem_cons_of_mem _ hm)]
      · rw [if_neg hm, if_neg (by simp only [List.mem_cons, not_or]; exact ⟨fun e => hj e.symm, hm⟩)]
theorem Keeps.wipe {vs : List Nat} {sg sg' : L2.St} (h : Keeps vs (L2.wipe sg vs) sg') : L2.wipe sg' vs = L2.wipe sg vs := by
  apply List.ext_getElem?
  intro j
  have hl : sg'.length = sg.length := by rw [h.2, wipe_length]
  rw [wipe_get, wipe_get]
  by_cases hj : j ∈ vs
  · rw [if_pos hj, if_pos hj, hl]
  · rw [if_neg hj, if_neg hj, h.1 j hj, wipe_get, if_neg hj]

section
variable {C : Cf} {ow : Nat → Option Addr} {sg : L2.St} {H : Hp} {env : Env}
theorem wipable_get {vs : List Nat} (h : wipable env vs = true) {j : Nat} (hj : j ∈ vs) : env[j]? = some .no ∨ ∃ d, env[j]? = some (.sh d) := by
  unfold wipable at h
  have := List.all_eq_true.mp h j hj
  cases e : env[j]? with
  | none => rw [e] at this; cases this
  | some s =>
    rw [e] at this
    cases s with
    | no => exact .inl rfl
    | sh d => exact .inr ⟨d, rfl⟩
    | _ => cases this
/-- the block's state at a turn's start -/
theorem wipe_rel {vs : List Nat} (R : Rel C ⟨ow, sg, H, env⟩) (h : ∀ j ∈ vs, ow j = none) : Rel C ⟨ow, wipe sg vs, H, wipeE env vs⟩ := by
  refine ⟨fun j => ?_, R.inj, R.own0, R.ownA, R.keep, R.a0, by show (wipeE env vs).length ≤ (wipe sg vs).length; rw [wipeE_length, wipe_length]; exact R.len, R.ioH⟩
  show SlOk C _ j (wipeE env vs)[j]?
  rw [wipeE_get]
  by_cases hj : j ∈ vs
  · rw [if_pos hj]
    split
    · exact h j hj
    · exact h j hj
  · rw [if_neg hj]
    have hs : (wipe sg vs)[j]? = sg[j]? := by rw [wipe_get, if_neg hj]
    have s := R.slot j
    have s : SlOk C ⟨ow, sg, H, env⟩ j env[j]? := s
    cases e : env[j]? with
    | none => rw [e] at s; exact s
    | some sl =>
      rw [e] at s
      cases sl with
      | no => exact s
      | sh d => obtain ⟨g1, v, g2, g3⟩ := s; exact ⟨g1, v, hs.trans g2, g3⟩
      | ow d => obtain ⟨b, g1, g2, g3, g4⟩ := s; exact ⟨b, g1, hs.trans g2, g3, g4⟩
      | lk d => obtain ⟨b, g1, g2, g3, g4⟩ := s; exact ⟨b, g1, hs.trans g2, g3, g4⟩
      | io d => obtain ⟨b, g1, g2, g3, g4⟩ := s; exact ⟨b, g1, hs.trans g2, g3, g4⟩
theorem none_of_wipable {vs : List Nat} (R : Rel C ⟨ow, sg, H, env⟩) (h : wipable env vs = true) : ∀ j ∈ vs, ow j = none := fun j hj => by
  have s := R.slot j
  have s : SlOk C ⟨ow, sg, H, env⟩ j env[j]? := s
  rcases wipable_get h hj with e | ⟨d, e⟩
  · rw [e] at s; exact s
  · rw [e] at s; exact s.1
/-- what is avoided may be written by who avoids it -/
theorem Rel.writeA {a : Addr} {p : Ps} (R : Rel (C.plus a) p) (hH0 : C.H0 a = none) (o : HO) : Rel (C.plus a) { p with H := upd p.H a o } := by
  have nA : ∀ b, ¬ Av (C.plus a) p.ow b → b ≠ a := fun b n z => n (.inl (.inr z))
  refine ⟨slots_to (C := C.plus a) (C' := C.plus a) rfl rfl R (fun i b e => upd_ne fun z => R.ownA i b e (.inr z)) (fun b u e n => by rw [upd_ne (nA b n)]; exact e) (fun _ _ n => n), R.inj, R.own0, R.ownA, fun b u e n => ?_, fun b z => ?_, R.len, fun b e => ?_⟩
  · have hb : b ≠ a := fun z => by
      have e : C.H0 b = some u := e
      rw [z, hH0] at e; cases e
    show upd p.H a o b = some u
    rw [upd_ne hb]
    exact R.keep b u e n
  · show upd p.H a o b ≠ none
    by_cases hb : b = a
    · rw [hb, upd_same]; exact fun z => nomatch z
    · rw [upd_ne hb]; exact R.a0 b z
  · show upd p.H a o b ≠ none
    by_cases hb : b = a
    · rw [hb, upd_same]; exact fun z => nomatch z
    · rw [upd_ne hb]; exact R.ioH b e
end

theorem tr_wipe {p : Ps} {ow : Nat → Option Addr} {sg sg3 : L2.St} {H : Hp} {e : Env} {vs : List Nat} (T : Tr p ⟨ow, sg3, H, e⟩) (h : ∀ j ∈ vs, ∀ d, p.env[j]? ≠ some (.lk d) ∧ p.env[j]? ≠ some (.io d)) (hs : wipe sg3 vs = wipe sg vs) : Tr p ⟨ow, wipe sg vs, H, wipeE e vs⟩ := by
  have sj : ∀ j, j ∉ vs → (wipe sg vs)[j]? = sg3[j]? := fun j hj => by rw [← hs, wipe_get, if_neg hj]
  refine ⟨T.same, T.owns, T.trk, fun j d z => ?_, fun d z => ?_⟩
  · obtain ⟨t1, t2, t3⟩ := T.lks j d z
    have hj : j ∉ vs := fun hj => (h j hj d).1 z
    exact ⟨by show (wipeE e vs)[j]? = _; rw [wipeE_get, if_neg hj]; exact t1, t2, (sj j hj).trans t3⟩
  · obtain ⟨⟨d1, t1⟩, t2, t3⟩ := T.ios d z
    have hj : 0 ∉ vs := fun hj => (h 0 hj d).2 z
    exact ⟨⟨d1, by show (wipeE e vs)[0]? = _; rw [wipeE_get, if_neg hj]; exact t1⟩, t2, (sj 0 hj).trans t3⟩
theorem tr_write {p q : Ps} {a : Addr} {o : HO} (T : Tr p q) (h : p.H a = none) : Tr p { q with H := upd q.H a o } := by
  refine ⟨fun b u e n => ?_, T.owns, fun b n => ?_, T.lks, T.ios⟩
  · have hb : b ≠ a := fun z => by rw [z, h] at e; cases e
    show upd q.H a o b = _
    rw [upd_ne hb]; exact T.same b u e n
  · show upd q.H a o b ≠ none
    by_cases hb : b = a
    · rw [hb, upd_same]; exact fun z => nomatch z
    · rw [upd_ne hb]; exact T.trk b n
def lcL (vs : List Nat) (g : SemG) (tt : SemB) (te : Sem) : List D → Env → Option (List D × Env)
  | [], env => if wipable env vs then some ([], env) else none
  | d :: ds, env => if wipable env vs then (g d (wipeE env vs)).bind fun e1 => (tt e1).bind fun t => if t.1 = true then (te t.2).bind fun x => (force x.1 x.2).bind fun y => (lcL vs g tt te ds y.2).bind fun r => some (y.1 :: r.1, r.2)
    else lcL vs g tt te ds t.2 else none
def sYes : SemB := fun env => some (true, env)
def fLc (mi : SemI) (vs : List Nat) (g : SemG) (tt : SemB) (te : Sem) : SemF := fun env => (mi env).bind fun x => if small x.1 && wipable x.2.1 vs then (lcL vs g tt te x.1 x.2.1).bind fun y => some (.lst y.1, unlockS x.2.2 (restoreE x.2.1 y.2 vs)) else none

/-- readings that do not name the context's own lists -/
def tSx (K : Frag) (m : Sem) : TE := fun sg H Q => ∃ C, C.K = K ∧ tS C m sg H Q
def tTx (K : Frag) (m : SemB) : TT := fun sg H Q => ∃ C, C.K = K ∧ tT C m sg H Q
def tGx (K : Frag) (vs : List Nat) (g : SemG) : TG := fun v sg H Q => ∃ C, C.K = K ∧ tG C vs g v sg H Q
section
variable {X : Cx} {K : Frag} {e : Expr} {m : Sem} {mb : SemB} {g : SemG} {vs : List Nat}
theorem pe_x (h : ∀ C : Cf, C.K = K → PE X e (tS C m)) : PE X e (tSx K m) := ⟨fun pins s σ H Q I ⟨C, hC, w⟩ => (h C hC).run pins s σ H Q I w⟩
theorem pt_x (h : ∀ C : Cf, C.K = K → PT X e (tT C mb)) : PT X e (tTx K mb) := ⟨fun pins s σ H Q I ⟨C, hC, w⟩ => (h C hC).run pins s σ H Q I w⟩
theorem pg_x (h : ∀ C : Cf, C.K = K → PG X e (tG C vs g)) : PG X e (tGx K vs g) := ⟨fun pins s σ H v u Q I r ⟨C, hC, w⟩ => (h C hC).run pins s σ H v u Q I r w⟩
theorem pts_x (h : ∀ C : Cf, C.K = K → PT X e (tT C mb)) : PTs X [e] (tTx K mb) := pts_one (pt_x h)
theorem pts_yes : PTs X [] (tTx K sYes) := ⟨fun pins s σ H Q I w => by
  obtain ⟨C, _, ow, env, b, env', e, R, k⟩ := w
  cases e
  exact pts_nil.run pins s σ H Q I (k H ow R (Tr.refl _))⟩
end

/-- the reading of a comprehension -/
theorem lcOf {K : Frag} {C : Cf} {mi : SemI} {vs : List Nat} {g : SemG} {tt : SemB} {te : Sem} {sg : L2.St} {H : Hp} {Q : VK} (hK : C.K = K) (w : tF C (fLc mi vs g tt te) sg H Q) :
    tLc (tI C mi) (tGx K vs g) (tTx K tt) (tSx K te) vs sg H Q := by
  obtain ⟨ow, env, dd, envF, e, R, k⟩ := w
  unfold fLc at e
  obtain ⟨⟨ds, env1, u⟩, h1, e⟩ := Option.bind_eq_some_iff.mp e
  dsimp only at e
  split at e
  rotate_left
  · cases e
  rename_i hsw
  rw [Bool.and_eq_true] at hsw
  obtain ⟨hsm, hwp⟩ := hsw
  have hsm := of_decide_eq_true hsm
  obtain ⟨⟨rs, envL⟩, h2, e⟩ := Option.bind_eq_some_iff.mp e
  cases e
  refine ⟨ow, env, ds, env1, u, h1, R, fun J H1 ow1 R1 T1 hu it A hA => ?_⟩
  have hAH : H A = none := by
    cases z : H A with
    | none => rfl
    | some o => exact absurd hA (T1.trk A (by show H A ≠ none; rw [z]; exact fun w => nomatch w))
  obtain ⟨f1, f2, f3⟩ := R1.fresh3 (p := ⟨ow1, sg, H1, env1⟩) hA
  obtain ⟨RA, TA, _⟩ := R1.newAt (.lst []) hA
  have noV := none_of_wipable R1 hwp
  have hsw : ∀ j ∈ vs, ∀ d, (wipeE env1 vs)[j]? ≠ some (.lk d) ∧ (wipeE env1 vs)[j]? ≠ some (.io d) := fun j hj d => by
    rw [wipeE_get, if_pos hj]
    split <;> exact ⟨fun z => (nomatch z), fun z => (nomatch z)⟩
  have T0 : Tr ⟨ow1, wipe sg vs, H1, wipeE env1 vs⟩ ⟨ow1, wipe sg vs, upd H1 A (.lst []), wipeE env1 vs⟩ := ⟨TA.same, TA.owns, TA.trk, fun _ _ e => ⟨e, rfl, rfl⟩, fun d e => ⟨⟨d, e⟩, rfl, rfl⟩⟩
  -- what stands in the def's own slots where the block's state stands so
  have slots : ∀ (owq : Nat → Option Addr) (Hq : Hp) (envq : Env), wipable envq vs = true → Rel (C.plus A) ⟨owq, wipe sg vs, Hq, wipeE envq vs⟩ → Tr ⟨ow1, wipe sg vs, H1, wipeE env1 vs⟩ ⟨owq, wipe sg vs, Hq, wipeE envq vs⟩ →
      Rel (C.plus A) ⟨owq, sg, Hq, restoreE env1 envq vs⟩ ∧ Tr ⟨ow1, sg, H1, env1⟩ ⟨owq, sg, Hq, restoreE env1 envq vs⟩ := by
    intro owq Hq envq hwq Rq Tq
    have out : ∀ j, j ∉ vs → (wipeE envq vs)[j]? = envq[j]? ∧ (wipe sg vs)[j]? = sg[j]? ∧ (wipeE env1 vs)[j]? = env1[j]? ∧ (restoreE env1 envq vs)[j]? = envq[j]? := fun j hj => by
      rw [wipeE_get, wipe_get, wipeE_get, restoreE_get, if_neg hj, if_neg hj, if_neg hj, if_neg hj]
      exact ⟨rfl, rfl, rfl, rfl⟩
    have inn : ∀ j, j ∈ vs → owq j = none ∧ (restoreE env1 envq vs)[j]? = env1[j]? := fun j hj => by
      have s := Rq.slot j
      have s : SlOk (C.plus A) ⟨owq, wipe sg vs, Hq, wipeE envq vs⟩ j (wipeE envq vs)[j]? := s
      rw [wipeE_get, if_pos hj] at s
      have l1 : j < env1.length := by
        rcases wipable_get hwp hj with e | ⟨d, e⟩ <;> exact (List.getElem?_eq_some_iff.mp e).1
      have l2 : j < envq.length := by
        rcases wipable_get hwq hj with e | ⟨d, e⟩ <;> exact (List.getElem?_eq_some_iff.mp e).1
      refine ⟨?_, ?_⟩
      · split at s
        · exact s
        · exact s
      · rw [restoreE_get, if_pos hj, if_pos l2, List.getD_eq_getElem?_getD, List.getElem?_eq_getElem l1]; rfl
    refine ⟨⟨fun j => ?_, Rq.inj, Rq.own0, Rq.ownA, Rq.keep, Rq.a0, ?_, Rq.ioH⟩, ⟨Tq.same, Tq.owns, Tq.trk, fun j d z => ?_, fun d z => ?_⟩⟩
    · show SlOk _ _ j (restoreE env1 envq vs)[j]?
      by_cases hj : j ∈ vs
      · rw [(inn j hj).2]
        have s := R1.slot j
        have s : SlOk C ⟨ow1, sg, H1, env1⟩ j env1[j]? := s
        rcases wipable_get hwp hj with e | ⟨d, e⟩
        · rw [e]; exact (inn j hj).1
        · rw [e] at s ⊢
          obtain ⟨_, v, g2, g3⟩ := s
          exact ⟨(inn j hj).1, v, g2, Den.goX (C := C) (C' := C.plus A) (p := ⟨ow1, wipe sg vs, H1, wipeE env1 vs⟩) (Ext.plus hA) Tq g3⟩
      · obtain ⟨o1, o2, o3, o4⟩ := out j hj
        rw [o4]
        have s := Rq.slot j
        have s : SlOk (C.plus A) ⟨owq, wipe sg vs, Hq, wipeE envq vs⟩ j (wipeE envq vs)[j]? := s
        rw [o1] at s
        cases e : envq[j]? with
        | none => rw [e] at s; exact s
        | some sl =>
          rw [e] at s
          cases sl with
          | no => exact s
          | sh d => obtain ⟨g1, v, g2, g3⟩ := s; exact ⟨g1, v, o2 ▸ g2, g3⟩
          | ow d => obtain ⟨b, g1, g2, g3, g4⟩ := s; exact ⟨b, g1, o2 ▸ g2, g3, g4⟩
          | lk d => obtain ⟨b, g1, g2, g3, g4⟩ := s; exact ⟨b, g1, o2 ▸ g2, g3, g4⟩
          | io d => obtain ⟨b, g1, g2, g3, g4⟩ := s; exact ⟨b, g1, o2 ▸ g2, g3, g4⟩
    · show (restoreE env1 envq vs).length ≤ sg.length
      rw [restoreE_length]
      have := Rq.len
      have : (wipeE envq vs).length ≤ (wipe sg vs).length := this
      rwa [wipeE_length, wipe_length] at this
    · have hj : j ∉ vs := fun hj => by
        have z : env1[j]? = some (.lk d) := z
        rcases wipable_get hwp hj with e | ⟨d', e⟩ <;> (rw [e] at z; cases z)
      obtain ⟨o1, o2, o3, o4⟩ := out j hj
      obtain ⟨t1, t2, t3⟩ := Tq.lks j d (o3.trans z)
      exact ⟨o4.trans (o1.symm.trans t1), t2, rfl⟩
    · have hj : (0 : Nat) ∉ vs := fun hj => by
        have z : env1[0]? = some (.io d) := z
        rcases wipable_get hwp hj with e | ⟨d', e⟩ <;> (rw [e] at z; cases z)
      obtain ⟨o1, o2, o3, o4⟩ := out 0 hj
      obtain ⟨⟨d1, t1⟩, t2, t3⟩ := Tq.ios d (o3.trans z)
      exact ⟨⟨d1, o4.trans (o1.symm.trans t1)⟩, t2, rfl⟩
  refine ⟨fun i n Hk => n = ds.length - i ∧ i ≤ ds.length ∧ ∃ owk envk acc xs rest, lcL vs g tt te (ds.drop i) envk = some (rest, envL) ∧ acc ++ rest = rs ∧ acc.length ≤ i ∧ Hk A = some (.lst xs) ∧ Dens C.K Hk (Av (C.plus A) owk) acc xs ∧
      Rel (C.plus A) ⟨owk, wipe sg vs, Hk, wipeE envk vs⟩ ∧ Tr ⟨ow1, wipe sg vs, H1, wipeE env1 vs⟩ ⟨owk, wipe sg vs, Hk, wipeE envk vs⟩,
    ⟨ds.length, by omega, Nat.zero_le _, ow1, env1, [], [], rs, by simpa using h2, rfl, Nat.le_refl _, upd_same, .nil, wipe_rel RA noV, T0⟩, fun i n Hk hw => ?_⟩
  obtain ⟨hn, hi, owk, envk, acc, xs, rest, hL, hrs, hacc, hAk, hD, Rk, Tk⟩ := hw
  have hwk : wipable envk vs = true := by
    cases hdr : ds.drop i with
    | nil => rw [hdr, lcL] at hL; split at hL; · assumption
             · cases hL
    | cons d l => rw [hdr, lcL] at hL; split at hL; · assumption
                  · cases hL
  obtain ⟨Rs, Ts⟩ := slots owk Hk envk hwk Rk Tk
  obtain ⟨ig, is⟩ := it (C.plus A) ⟨owk, sg, Hk, restoreE env1 envk vs⟩ (Ext.plus hA) Rs Ts i
  cases hd : ds[i]? with
  | none =>
    have hdrop : ds.drop i = [] := List.drop_eq_nil_of_le (List.getElem?_eq_none_iff.mp hd)
    rw [hdrop, lcL, if_pos hwk] at hL
    cases hL
    rw [List.append_nil] at hrs
    subst hrs
    refine .inl ⟨is hd, ?_⟩
    obtain ⟨R2, T2⟩ := unlock_ok (u := u) (p := ⟨ow, sg, H, env⟩) Rs (T1.trans Ts) fun j ej d z => (hu j ej).elim fun _ w => w.2 d z
    exact k A Hk owk hAH R2 T2 ⟨xs, hAk, hD⟩
  | some d =>
    obtain ⟨lt, hd'⟩ := List.getElem?_eq_some_iff.mp hd
    have hdrop : ds.drop i = d :: ds.drop (i + 1) := by rw [List.drop_eq_getElem_cons lt, hd']
    rw [hdrop, lcL, if_pos hwk] at hL
    obtain ⟨e2, g2, hL⟩ := Option.bind_eq_some_iff.mp hL
    obtain ⟨⟨b, e3⟩, g3, hL⟩ := Option.bind_eq_some_iff.mp hL
    obtain ⟨jg, jy⟩ := ig d hd
    refine .inr ⟨jg, fun H' => ∃ owk envk acc xs rest, lcL vs g tt te (ds.drop (i + 1)) envk = some (rest, envL) ∧ acc ++ rest = rs ∧ acc.length ≤ i + 1 ∧ H' A = some (.lst xs) ∧ Dens C.K H' (Av (C.plus A) owk) acc xs ∧
      Rel (C.plus A) ⟨owk, wipe sg vs, H', wipeE envk vs⟩ ∧ Tr ⟨ow1, wipe sg vs, H1, wipeE env1 vs⟩ ⟨owk, wipe sg vs, H', wipeE envk vs⟩, fun H' h => ⟨ds.length - (i + 1), by omega, rfl, by omega, h⟩, fun x H2 hy => ?_⟩
    obtain ⟨sm, dn⟩ := jy x H2 hy
    obtain ⟨R2, T2⟩ := Rk.grow sm
    refine ⟨C.plus A, hK, owk, wipeE envk vs, d, e2, g2, R2, dn, fun sg3 H3 ow3 R3 T3 K3 => ⟨K3.wipe, C.plus A, hK, ow3, e2, b, e3, g3, R3, fun H4 ow4 R4 T4 => ?_⟩⟩
    have T24 := T2.trans (T3.trans T4)
    have hA4 : H4 A = some (.lst xs) := T24.same A _ hAk fun j z => Rk.ownA j A z (.inr rfl)
    have hD4 : Dens C.K H4 (Av (C.plus A) ow4) acc xs := Dens.go (C := C.plus A) T24 hD
    cases b with
    | false =>
      rw [if_neg Bool.false_ne_true] at hL
      refine iteF ?_
      have hw3 : wipable e3 vs = true := by
        cases hdr : ds.drop (i + 1) with
        | nil => rw [hdr, lcL] at hL; split at hL; · assumption
                 · cases hL
        | cons d l => rw [hdr, lcL] at hL; split at hL; · assumption
                      · cases hL
      have Rw := wipe_rel R4 (none_of_wipable R4 hw3)
      rw [K3.wipe] at Rw
      exact ⟨ow4, e3, acc, xs, rest, hL, hrs, by omega, hA4, hD4, Rw, tr_wipe (Tk.trans T24) hsw K3.wipe⟩
    | true =>
      rw [if_pos rfl] at hL
      refine iteT ?_
      obtain ⟨⟨r5, e5⟩, g5, hL⟩ := Option.bind_eq_some_iff.mp hL
      obtain ⟨⟨d6, e6⟩, g6, hL⟩ := Option.bind_eq_some_iff.mp hL
      obtain ⟨⟨rest', e7⟩, g7, hL⟩ := Option.bind_eq_some_iff.mp hL
      cases hL
      refine ⟨C.plus A, hK, ow4, e3, r5, e5, g5, R4, fun v H5 ow5 R5 T5 D5 => ?_⟩
      obtain ⟨ow6, R6, T6, D6⟩ := force_ok R5 D5 g6
      have T56 := T5.trans T6
      have hA5 : H5 A = some (.lst xs) := T56.same A _ hA4 fun j z => R4.ownA j A z (.inr rfl)
      have hD5 : Dens C.K H5 (Av (C.plus A) ow6) acc xs := Dens.go (C := C.plus A) T56 hD4
      have hw6 : wipable e6 vs = true := by
        cases hdr : ds.drop (i + 1) with
        | nil => rw [hdr, lcL] at g7; split at g7; · assumption
                 · cases g7
        | cons d l => rw [hdr, lcL] at g7; split at g7; · assumption
                      · cases g7
      have R7 := Rel.writeA R6 f1 (.lst (xs ++ [v]))
      have Rw := wipe_rel R7 (none_of_wipable R7 hw6)
      rw [K3.wipe] at Rw
      have h1 : ∀ b o, H5 b = some o → ¬ Av (C.plus A) ow6 b → upd H5 A (.lst (xs ++ [v])) b = some o := fun b o e n => by
        rw [upd_ne (fun z => n (.inl (.inr z)))]; exact e
      refine ⟨xs, hA5, by rw [← hD.length]; omega, ow6, e6, acc ++ [d6], xs ++ [v], rest', g7, by rw [List.append_assoc]; exact hrs, by rw [List.length_append, List.length_singleton]; omega, upd_same, ?_, Rw, ?_⟩
      · exact Dens.to h1 (fun _ _ n => n) _ _ (hD5.append (.one D6))
      · have T7 : Tr ⟨ow1, wipe sg vs, H1, wipeE env1 vs⟩ ⟨ow6, sg3, upd H5 A (.lst (xs ++ [v])), e6⟩ := tr_write (Tk.trans (T24.trans T56)) hA
        exact tr_wipe T7 hsw K3.wipe

section
variable {X : Cx} {C : Cf} {elt tg iter : Expr} {ifs : List Expr} {scope : Scope} {own : List (Str × Nat)} {pos : Pos} {mi : SemI} {g : SemG} {tt : SemB} {te : Sem}
theorem f_lc (hK : C.K = X.K) (hc : X.calm = true) (hN : X.N.Nodup) (hi : PI X tg iter (tI C mi)) (ok : BlkOk X.N X.env.scope scope own)
    (hg : ∀ (s : Shared) (H : Hp) (A : Addr) (cl : List (Str × Addr)) (fp : List Addr) (C' : Cf), C'.K = X.K → PG (X.blk s H scope (compEnvC scope cl A X.env) fp) tg (tG C' (own.map (·.2)) g))
    (ht : ∀ (s : Shared) (H : Hp) (A : Addr) (cl : List (Str × Addr)) (fp : List Addr), PTs (X.blk s H scope (compEnvC scope cl A X.env) fp) ifs (tTx X.K tt))
    (he : ∀ (s : Shared) (H : Hp) (A : Addr) (cl : List (Str × Addr)) (fp : List Addr) (C' : Cf), C'.K = X.K → PE (X.blk s H scope (compEnvC scope cl A X.env) fp) elt (tS C' te)) (hs : ∀ x, foldedSetIterable iter X.env x = pure x) :
    PE X (.ListComp elt [⟨tg, iter, ifs, 0⟩] scope pos) (tF C (fLc mi (own.map (·.2)) g tt te)) :=
  peOf (pe_lc hc hN hi ok (fun s H A cl fp => pg_x fun C' h => hg s H A cl fp C' h) ht (fun s H A cl fp => pe_x fun C' h => he s H A cl fp C' h) hs) fun sg H Q w => lcOf hK w
/-- x = [..], x a local -/
theorem ps_lc {i : Nat} {y : Str} {py spos : Pos} {D : Ends} (hK : C.K = X.K) (hc : X.calm = true) (hN : X.N.Nodup) (hy : X.N[i]? = some y) (hyl : X.env.scope.names.lookup y = some .local)
    (hsw : swapsWith (.ListComp elt [⟨tg, iter, ifs, 0⟩] scope pos) (some (.Name y py)) spos.line X.env = pure true) (hi : PI X tg iter (tI C mi)) (ok : BlkOk X.N X.env.scope scope own)
    (hg : ∀ (s : Shared) (H : Hp) (A : Addr) (cl : List (Str × Addr)) (fp : List Addr) (C' : Cf), C'.K = X.K → PG (X.blk s H scope (compEnvC scope cl A X.env) fp) tg (tG C' (own.map (·.2)) g))
    (ht : ∀ (s : Shared) (H : Hp) (A : Addr) (cl : List (Str × Addr)) (fp : List Addr), PTs (X.blk s H scope (compEnvC scope cl A X.env) fp) ifs (tTx X.K tt))
    (he : ∀ (s : Shared) (H : Hp) (A : Addr) (cl : List (Str × Addr)) (fp : List Addr) (C' : Cf), C'.K = X.K → PE (X.blk s H scope (compEnvC scope cl A X.env) fp) elt (tS C' te)) (hs : ∀ x, foldedSetIterable iter X.env x = pure x) :
    PS X (.Assign [.Name y py] (.ListComp elt [⟨tg, iter, ifs, 0⟩] scope pos) spos) (tSt C (sOwn (fLc mi (own.map (·.2)) g tt te) i)) :=
  psOf (ps_setLc hc hN hy hyl hsw hi ok (fun s H A cl fp => pg_x fun C' h => hg s H A cl fp C' h) ht (fun s H A cl fp => pe_x fun C' h => he s H A cl fp C' h) hs) fun D sg H w => by
    have w2 := ownOf w
    exact lcOf hK w2
end
end NL

/-! NL6: subscripts, slices, in, built-in functions and methods -/
namespace NL
open PySem PySem.Spec L2
open PyProof.Rows hiding St

/-! ### subscripts -/
theorem ixN_le {n : Nat} {i : Int} {j : Nat} (h : ixN n i = some j) : j < n := (ixN_seq h).2.1
section
variable {K : Frag} {H : Hp} {A : Addr → Prop}
theorem atI_den {l : List D} {xs : List V} {i : Int} {d : D} (r : Dens K H A l xs) (h : atI l i = some d) : ∃ v, atI xs i = some v ∧ Den K H A d v := by
  unfold atI at h ⊢
  rw [← r.length]
  obtain ⟨j, h1, h2⟩ := Option.bind_eq_some_iff.mp h
  obtain ⟨v, h3, h4⟩ := r.get h2
  exact ⟨v, by rw [h1]; exact h3, h4⟩
end
def asKey : D → Option Key
  | .int i => some (.inl i)
  | .str x => some (.inr x)
  | _ => none
def asKeys : List D → Option (List Key)
  | [] => some []
  | d :: l => (asKey d).bind fun k => (asKeys l).bind fun r => some (k :: r)
theorem asKey_ok {K : Frag} {H : Hp} {A : Addr → Prop} {d : D} {v : V} {k : Key} (h : Den K H A d v) (e : asKey d = some k) : v = kV k := by
  cases d with
  | int i => cases e; rw [Den] at h; exact h
  | str x => cases e; rw [Den] at h; exact h
  | _ => cases e
theorem asKeys_ok {K : Frag} {H : Hp} {A : Addr → Prop} : ∀ {l : List D} {xs : List V} {ks : List Key}, Dens K H A l xs → asKeys l = some ks → xs = ks.map kV
  | [], xs, ks, h, e => by cases e; rw [Dens] at h; exact h
  | d :: l, xs, ks, h, e => by
    rw [Dens] at h
    obtain ⟨x, r, rfl, h1, h2⟩ := h
    obtain ⟨k, e1, e⟩ := Option.bind_eq_some_iff.mp e
    obtain ⟨ks', e2, e⟩ := Option.bind_eq_some_iff.mp e
    cases e
    rw [List.map_cons, ← asKey_ok h1 e1, ← asKeys_ok h2 e2]
def lookD {κ : Type} [DecidableEq κ] : List κ → List D → κ → Option D
  | k :: ks, d :: ds, x => if k = x then some d else lookD ks ds x
  | _, _, _ => none
theorem lookD_ok {κ : Type} [DecidableEq κ] {K : Frag} {H : Hp} {A : Addr → Prop} : ∀ {kvs : List (κ × V)} {ds : List D} (x : κ), Dens K H A ds (kvs.map (·.2)) → (∀ d, lookD (kvs.map (·.1)) ds x = some d → ∃ v, valV kvs x = some v ∧ Den K H A d v) ∧ (lookD (kvs.map (·.1)) ds x = none → valV kvs x = none)
  | [], ds, x, h => ⟨fun d e => by simp [lookD] at e, fun _ => rfl⟩
  | (k, v) :: kvs, [], x, h => by rw [Dens] at h; cases h
  | (k, v) :: kvs, d :: ds, x, h => by
    rw [Dens] at h
    obtain ⟨y, r, e, h1, h2⟩ := h
    cases e
    have ih := lookD_ok x h2
    show (∀ d', (if k = x then some d else lookD (kvs.map (·.1)) ds x) = some d' → _) ∧ ((if k = x then some d else lookD (kvs.map (·.1)) ds x) = none → _)
    by_cases hk : k = x
    · rw [if_pos hk]
      exact ⟨fun d' e => by cases e; exact ⟨v, valV_pos (p := (k, v)) hk, h1⟩, fun e => nomatch e⟩
    · rw [if_neg hk]
      refine ⟨fun d' e => ?_, fun e => ?_⟩
      · obtain ⟨w, e1, e2⟩ := ih.1 d' e
        exact ⟨w, (valV_neg (p := (k, v)) hk).trans e1, e2⟩
      · exact (valV_neg (p := (k, v)) hk).trans (ih.2 e)
/-- what a dict holds at a key -/
def dLook (d k : D) : Option (Option D) := match d with
  | .dK ks vs => (asKey k).bind fun k => some (lookD ks vs k)
  | .dT ks vs => match k with
    | .tup l => (asKeys l).bind fun k => some (lookD ks vs k)
    | _ => none
  | _ => none
theorem dLook_ok {K : Frag} {H : Hp} {A : Addr → Prop} {d k : D} {x y : V} {o : Option D} (h1 : BDen K H A d x) (h2 : BDen K H A k y) (e : dLook d k = some o) :
    ∃ a r, x = .ref a ∧ DGet H a y r ∧ (∀ d', o = some d' → ∃ v, r = some v ∧ Den K H A d' v) ∧ (o = none → r = none) := by
  cases d with
  | dK ks vs =>
    obtain ⟨a, kvs, rfl, s, rfl, r⟩ := h1
    obtain ⟨k', e1, e⟩ := Option.bind_eq_some_iff.mp e
    cases e
    have hk : y = kV k' := by
      cases k with
      | int i => exact asKey_ok (K := K) (H := H) (A := A) h2 e1
      | str i => exact asKey_ok (K := K) (H := H) (A := A) h2 e1
      | _ => cases e1
    obtain ⟨q1, q2⟩ := lookD_ok k' r
    exact ⟨a, _, rfl, hk ▸ DGet.k s, q1, q2⟩
  | dT ks vs =>
    obtain ⟨a, kvs, rfl, s, rfl, r⟩ := h1
    cases k with
    | tup l =>
      obtain ⟨k', e1, e⟩ := Option.bind_eq_some_iff.mp e
      cases e
      obtain ⟨b, xs, rfl, s2, r2⟩ := bTupH h2
      rw [asKeys_ok r2 e1] at s2
      obtain ⟨q1, q2⟩ := lookD_ok k' r
      exact ⟨a, _, rfl, DGet.t s s2, q1, q2⟩
    | _ => cases e
  | _ => cases e
def gIx : D → D → Option D
  | .lst l, .int i => atI l i
  | .tup l, .int i => atI l i
  | .fl l, .int i => atI l i
  | .str x, .int i => if x.length ≤ sizeLine then (atI x.cps.toList i).bind fun c => some (.str ⟨#[c]⟩) else none
  | d, k => (dLook d k).bind id
def rIxD : R2 := fun x y H Q => ∃ a v, x = .ref a ∧ DGet H a y (some v) ∧ Q v H
section
variable {X : Cx} {C : Cf} {e a b : Expr} {es : List Expr} {pos : Pos} {m m1 m2 : Sem} {ms : SemR}
theorem ix_dict (hu : X.A.units + 1 < cLine) : IxR X rIxD := by
  intro value slice pins s σ H x y v u Q I rx ry h hs
  obtain ⟨a, w, rfl, g, q⟩ := h
  cases rx
  exact tail_any (dict_typeIs I g) PySem.F.slot_dict_getitem.lookup (d_getItem hu I g ry fun w' s' I' r' => ⟨w, H, I', r', q⟩) hs
theorem s_ix (hK : C.K = X.K) (hu : X.A.units + 1 < cLine) (ha : PE X a (tS C m1)) (hb : PE X b (tS C m2)) (hs : PlainIx b) : PE X (.Subscript a b pos) (tS C (sOp gIx m1 m2)) := by
  refine peOf (pe_ix (ix_seq.or (ix_dict hu)) ha hb hs) fun sg H Q h => op2 (fun p d1 d2 d x y Q R h1 h2 e k => ?_) h
  unfold gIx at e
  split at e
  · obtain ⟨a, xs, rfl, s, r⟩ := bLst h1
    cases bInt h2
    obtain ⟨v, h3, h4⟩ := atI_den r e
    exact .inl (.inl ⟨a, xs, _, v, rfl, rfl, SqL.of s, h3, k _ _ (Same.refl _) h4⟩)
  · obtain ⟨a, xs, rfl, s, r⟩ := bTup h1
    cases bInt h2
    obtain ⟨v, h3, h4⟩ := atI_den r e
    rw [hK] at s
    exact .inl (.inr (.inl ⟨a, xs, _, v, rfl, rfl, s, h3, k _ _ (Same.refl _) h4⟩))
  · obtain ⟨a, xs, rfl, s, r⟩ := bFl h1
    cases bInt h2
    obtain ⟨v, h3, h4⟩ := atI_den r e
    rw [hK] at s
    exact .inl (.inl ⟨a, xs, _, v, rfl, rfl, s, h3, k _ _ (Same.refl _) h4⟩)
  · split at e
    · rename_i hz
      obtain ⟨c, h3, e⟩ := Option.bind_eq_some_iff.mp e
      cases e
      cases bStr h1; cases bInt h2
      exact .inl (.inr (.inr ⟨_, _, c, rfl, rfl, hz, h3, k _ _ (Same.refl _) dStr⟩))
    · cases e
  · obtain ⟨o, h3, e⟩ := Option.bind_eq_some_iff.mp e
    have e : o = some d := e
    obtain ⟨a, r, rfl, g, q1, _⟩ := dLook_ok h1 h2 h3
    obtain ⟨v, rfl, dv⟩ := q1 d e
    exact .inr ⟨a, v, rfl, g, k _ _ (Same.refl _) dv⟩

/-! ### slices -/
abbrev SemP := Env → Option (Option Int × Env)
def tP (C : Cf) (m : SemP) : TO := fun sg H Q => ∃ ow env o env', m env = some (o, env') ∧ Rel C ⟨ow, sg, H, env⟩ ∧ ∀ H' ow', Rel C ⟨ow', sg, H', env'⟩ → Tr ⟨ow, sg, H, env⟩ ⟨ow', sg, H', env'⟩ → Q o H'
def pNone : SemP := fun env => some (none, env)
def pSome (m : Sem) : SemP := fun env => (m env).bind fun x => match x.1 with
  | .val (.int i) => some (some i, x.2)
  | _ => none
theorem poOf {e : Option Expr} {t t' : TO} (h : PO X e t) (k : ∀ sg H Q, t' sg H Q → t sg H Q) : PO X e t' := ⟨fun pins s σ H Q I w => h.run pins s σ H Q I (k _ _ _ w)⟩
theorem p_none : PO X none (tP C pNone) := poOf po_none fun sg H Q w => by
  obtain ⟨ow, env, o, env', e, R, k⟩ := w
  cases e
  exact k H ow R (Tr.refl _)
theorem p_some (h : PE X e (tS C m)) : PO X (some e) (tP C (pSome m)) := poOf (po_some h) fun sg H Q w => by
  obtain ⟨ow, env, o, env', e, R, k⟩ := w
  unfold pSome at e
  obtain ⟨⟨r, e1⟩, h1, e⟩ := Option.bind_eq_some_iff.mp e
  dsimp only at e
  split at e
  · cases e
    exact ⟨ow, env, _, _, h1, R, fun v H1 ow1 R1 T1 D1 => ⟨_, rden_int D1, k H1 ow1 R1 T1⟩⟩
  · cases e
def cutD {α : Type} (l : List α) (lo hi : Option Int) : List α := (l.drop (HT.sIx l.length 0 lo)).take (HT.sIx l.length l.length hi - HT.sIx l.length 0 lo)
def gSl (d : D) (lo hi : Option Int) : Option D := match d with
  | .lst l => some (.lst (cutD l lo hi))
  | .fl l => some (.lst (cutD l lo hi))
  | .tup l => some (.tup (cutD l lo hi))
  | _ => none
def sSl (m : Sem) (p1 p2 : SemP) : Sem := fun env => (m env).bind fun x => (p1 x.2).bind fun y => (p2 y.2).bind fun z => (deref z.2 x.1).bind fun d => (gSl d y.1 z.1).bind fun d => some (.val d, z.2)
theorem cutV_den {K : Frag} {H : Hp} {A : Addr → Prop} {l : List D} {xs : List V} (r : Dens K H A l xs) (lo hi : Option Int) : Dens K H A (cutD l lo hi) (cutV xs lo hi) := by
  unfold cutD cutV
  rw [r.length]
  exact (r.drop _).take _
theorem s_sl {lo hi : Option Expr} {p1 p2 : SemP} {pp : Pos} (hK : C.K = X.K) (he : PE X e (tS C m)) (hl : PO X lo (tP C p1)) (hu : PO X hi (tP C p2)) : PE X (.Subscript e (.Slice lo hi none pp) pos) (tS C (sSl m p1 p2)) := by
  refine peOf (pe_slice (SlR.or sl_list sl_tupA) he hl hu) fun sg H Q w => ?_
  obtain ⟨ow, env, r, env', e, R, k⟩ := w
  unfold sSl at e
  obtain ⟨⟨r1, e1⟩, h1, e⟩ := Option.bind_eq_some_iff.mp e
  obtain ⟨⟨o1, e2⟩, h2, e⟩ := Option.bind_eq_some_iff.mp e
  obtain ⟨⟨o2, e3⟩, h3, e⟩ := Option.bind_eq_some_iff.mp e
  obtain ⟨d, h4, e⟩ := Option.bind_eq_some_iff.mp e
  obtain ⟨d', h5, e⟩ := Option.bind_eq_some_iff.mp e
  cases e
  refine ⟨ow, env, r1, e1, h1, R, fun v H1 ow1 R1 T1 D1 => ⟨ow1, e1, o1, e2, h2, R1, fun H2 ow2 R2 T2 => ⟨ow2, e2, o2, _, h3, R2, fun H3 ow3 R3 T3 => ?_⟩⟩⟩
  have B := (D1.go (T2.trans T3) rfl).b R3 h4
  have Tall := T1.trans (T2.trans T3)
  have fin : ∀ w H4, Same H3 H4 → Den C.K H4 (Av C ow3) d' w → Q w H4 := fun w H4 s dn => by
    obtain ⟨R4, T4⟩ := R3.grow s
    exact k w H4 ow3 R4 (Tall.trans T4) dn
  cases d with
  | lst l =>
    cases h5
    obtain ⟨a, xs, rfl, s, r⟩ := bLst B
    refine .inl ⟨a, xs, rfl, SqL.of s, fun q hq => ?_⟩
    obtain ⟨s3, dn⟩ := newL R3 hq (cutV_den r o1 o2)
    exact fin _ _ s3 dn
  | fl l =>
    cases h5
    obtain ⟨a, xs, rfl, s, r⟩ := bFl B
    rw [hK] at s
    refine .inl ⟨a, xs, rfl, s, fun q hq => ?_⟩
    obtain ⟨s3, dn⟩ := newL R3 hq (cutV_den r o1 o2)
    exact fin _ _ s3 dn
  | tup l =>
    cases h5
    obtain ⟨a, xs, rfl, s, r⟩ := bTup B
    rw [hK] at s
    refine .inr ⟨a, xs, rfl, s, fun hw => ?_, fun _ q hq => ?_⟩
    · refine fin _ _ (Same.refl _) ?_
      have e : cutD l o1 o2 = l := by
        unfold cutD
        rw [r.length, hw.1, hw.2, List.drop_zero, Nat.sub_zero, ← r.length, List.take_length]
      rw [e]
      exact bTupD B
    · obtain ⟨s3, dn⟩ := newT R3 hq (cutV_den r o1 o2)
      exact fin _ _ s3 dn
  | _ => cases h5

/-! ### in, not in -/
def anyEq : List D → D → Option Bool
  | [], _ => some false
  | d :: l, x => (dEq d x).bind fun b => (anyEq l x).bind fun r => some (b || r)
def flatD : D → Bool
  | .non => true
  | .bl _ => true
  | .int _ => true
  | .str _ => true
  | _ => false
def toV : D → V
  | .bl b => .bl b
  | .int i => .int i
  | .str x => .str x
  | _ => .non
theorem flatD_ok {K : Frag} {H : Hp} {A : Addr → Prop} {d : D} {v : V} (h : Den K H A d v) (f : flatD d = true) : v = toV d ∧ flatV v = true := by
  cases d with
  | non => rw [Den] at h; subst h; exact ⟨rfl, rfl⟩
  | bl b => rw [Den] at h; subst h; exact ⟨rfl, rfl⟩
  | int i => rw [Den] at h; subst h; exact ⟨rfl, rfl⟩
  | str x => rw [Den] at h; subst h; exact ⟨rfl, rfl⟩
  | _ => cases f
theorem flatDs_ok {K : Frag} {H : Hp} {A : Addr → Prop} : ∀ {l : List D} {xs : List V}, Dens K H A l xs → l.all flatD = true → xs = l.map toV ∧ xs.all flatV = true
  | [], xs, h, _ => by rw [Dens] at h; subst h; exact ⟨rfl, rfl⟩
  | d :: l, xs, h, f => by
    rw [Dens] at h
    obtain ⟨x, r, rfl, h1, h2⟩ := h
    rw [List.all_cons, Bool.and_eq_true] at f
    obtain ⟨e1, e2⟩ := flatD_ok h1 f.1
    obtain ⟨e3, e4⟩ := flatDs_ok h2 f.2
    refine ⟨by rw [e1, e3]; rfl, by rw [List.all_cons, e2, e4]; rfl⟩
/-- x in l, of flat things -/
def eqF : D → D → Bool
  | .int a, .int b => a == b
  | .str a, .str b => a == b
  | .non, .non => true
  | .bl a, .bl b => a == b
  | .bl a, .int b => (if a then 1 else 0) == b
  | .int a, .bl b => a == (if b then 1 else 0)
  | _, _ => false
theorem eqF_ok {a b : D} (ha : flatD a = true) (hb : flatD b = true) : eqV (toV a) (toV b) = eqF a b := by
  cases a <;> first | (exact absurd ha Bool.false_ne_true) | (cases b <;> first | (exact absurd hb Bool.false_ne_true) | rfl)
def dIn (x y : D) : Option Bool := match y with
  | .tup l => if flatD x && l.all flatD then some (l.any fun d => eqF d x) else none
  | .str t => match x with
    | .str s => some (!(Builtin.Str.occurrences t s 0 t.length 1).isEmpty)
    | _ => none
  | .lst l => if flatD x && l.all flatD then some (l.any fun d => eqF d x) else (toP x).bind fun q => (toPs l).bind fun qs => if SeqAt.shaped q && SeqAt.shaped (.list qs) then some (qs.any fun z => PyData.eqv z q) else none
  | y => (dLook y x).bind fun o => some o.isSome
theorem inV_ok {x : D} {l : List D} (f : flatD x = true) (fl : l.all flatD = true) : inV (toV x) (l.map toV) = l.any fun d => eqF d x := by
  unfold inV
  rw [List.any_map]
  induction l with
  | nil => rfl
  | cons d l ih =>
    rw [List.all_cons, Bool.and_eq_true] at fl
    rw [List.any_cons, List.any_cons, ih fl.2]
    show (eqV (toV d) (toV x) || _) = _
    rw [eqF_ok fl.1 f]
def rInDict (neg : Bool) : R2 := fun x y H Q => ∃ a o, y = .ref a ∧ DGet H a x o ∧ Q (.bl (if neg then !o.isSome else o.isSome)) H
theorem op_inDict (hu : X.A.units + 1 < cLine) : OpR X (compareOp .In) (rInDict false) := by
  intro pins s σ H x y v u Q I rx ry h
  obtain ⟨a, o, rfl, g, q⟩ := h
  cases ry
  exact d_in hu I g rx fun s' I' => ⟨.bl o.isSome, H, I', rfl, q⟩
theorem op_notInDict (hu : X.A.units + 1 < cLine) : OpR X (compareOp .NotIn) (rInDict true) := by
  intro pins s σ H x y v u Q I rx ry h
  obtain ⟨a, o, rfl, g, q⟩ := h
  cases ry
  exact d_notIn hu I g rx fun s' I' => ⟨.bl (!o.isSome), H, I', rfl, q⟩
theorem flat_b {K : Frag} {H : Hp} {A : Addr → Prop} {d : D} {v : V} (h : BDen K H A d v) (f : flatD d = true) : v = toV d ∧ flatV v = true := by
  cases d with
  | non => exact flatD_ok (K := K) (H := H) (A := A) h f
  | bl b => exact flatD_ok (K := K) (H := H) (A := A) h f
  | int b => exact flatD_ok (K := K) (H := H) (A := A) h f
  | str b => exact flatD_ok (K := K) (H := H) (A := A) h f
  | _ => cases f
/-- what the four rules want, by cases -/
theorem in_cases {K : Frag} {H : Hp} {A : Addr → Prop} {x y : D} {u v : V} {c : Bool} (h1 : BDen K H A x u) (h2 : BDen K H A y v) (e : dIn x y = some c) :
    (∃ p xs, v = .ref p ∧ (SqL K H p xs ∨ SqT K H p xs) ∧ flatV u = true ∧ xs.all flatV = true ∧ inV u xs = c) ∨
    (∃ i j, u = .str i ∧ v = .str j ∧ (!(Builtin.Str.occurrences j i 0 j.length 1).isEmpty) = c) ∨
    (∃ d ds, Dp K H u d ∧ Dp K H v (.list ds) ∧ SeqAt.shaped d = true ∧ SeqAt.shaped (.list ds) = true ∧ (ds.any fun z => PyData.eqv z d) = c) ∨
    (∃ a o, v = .ref a ∧ DGet H a u o ∧ o.isSome = c) := by
  have dict : (dLook y x).bind (fun o => some o.isSome) = some c → (∃ a o, v = .ref a ∧ DGet H a u o ∧ o.isSome = c) := fun e => by
    obtain ⟨o, e1, e⟩ := Option.bind_eq_some_iff.mp e
    cases e
    obtain ⟨a, r, rfl, g, q1, q2⟩ := dLook_ok h2 h1 e1
    refine ⟨a, r, rfl, g, ?_⟩
    cases o with
    | none => rw [q2 rfl]; rfl
    | some d => obtain ⟨w, e2, _⟩ := q1 d rfl; rw [e2]; rfl
  unfold dIn at e
  split at e
  · rename_i l
    split at e
    · rename_i hf
      rw [Bool.and_eq_true] at hf
      cases e
      obtain ⟨a, xs, rfl, s, r⟩ := bTup h2
      obtain ⟨e1, e2⟩ := flat_b h1 hf.1
      obtain ⟨e3, e4⟩ := flatDs_ok r hf.2
      exact .inl ⟨a, xs, rfl, .inr s, e2, e4, by rw [e1, e3]; exact inV_ok hf.1 hf.2⟩
    · cases e
  · split at e
    · cases e
      exact .inr (.inl ⟨_, _, bStr h1, bStr h2, rfl⟩)
    · cases e
  · rename_i l
    split at e
    · rename_i hf
      rw [Bool.and_eq_true] at hf
      cases e
      obtain ⟨a, xs, rfl, s, r⟩ := bLst h2
      obtain ⟨e1, e2⟩ := flat_b h1 hf.1
      obtain ⟨e3, e4⟩ := flatDs_ok r hf.2
      exact .inl ⟨a, xs, rfl, .inl (SqL.of s), e2, e4, by rw [e1, e3]; exact inV_ok hf.1 hf.2⟩
    · obtain ⟨q, e1, e⟩ := Option.bind_eq_some_iff.mp e
      obtain ⟨qs, e2, e⟩ := Option.bind_eq_some_iff.mp e
      split at e
      · rename_i hs
        rw [Bool.and_eq_true] at hs
        cases e
        refine .inr (.inr (.inl ⟨q, qs, toP_okB h1 e1, toP_okB h2 ?_, hs.1, hs.2, rfl⟩))
        rw [toP, e2]; rfl
      · cases e
  · exact .inr (.inr (.inr (dict e)))
def gIn (x y : D) : Option D := (dIn x y).bind fun c => some (.bl c)
def gNotIn (x y : D) : Option D := (dIn x y).bind fun c => some (.bl (!c))
theorem b_in (hK : C.K = X.K) (hu : X.A.units + 65 < cLine) : OpB X C (compareOp .In) gIn := by
  refine ⟨_, op_in_seq.or (op_in_str.or (OpR.or (op_inD hu) (op_inDict (by omega)))), fun p d1 d2 d x y Q R h1 h2 e k => ?_⟩
  obtain ⟨c, e1, e⟩ := Option.bind_eq_some_iff.mp e
  cases e
  rw [hK] at h1 h2
  have fin := k _ _ (Same.refl _) (dBl (b := c))
  rcases in_cases h1 h2 e1 with ⟨a, xs, h3, h4, h5, h6, rfl⟩ | ⟨i, j, h3, h4, rfl⟩ | ⟨q, qs, h3, h4, h5, h6, rfl⟩ | ⟨a, o, h3, h4, rfl⟩
  · exact .inl ⟨a, xs, h3, h4, h5, h6, fin⟩
  · exact .inr (.inl ⟨i, j, h3, h4, fin⟩)
  · exact .inr (.inr (.inl ⟨q, qs, h3, h4, h5, h6, fin⟩))
  · exact .inr (.inr (.inr ⟨a, o, h3, h4, fin⟩))
theorem b_notIn (hK : C.K = X.K) (hu : X.A.units + 65 < cLine) : OpB X C (compareOp .NotIn) gNotIn := by
  refine ⟨_, op_notIn_seq.or (L2.op_notin_str.or (OpR.or (op_notInD hu) (op_notInDict (by omega)))), fun p d1 d2 d x y Q R h1 h2 e k => ?_⟩
  obtain ⟨c, e1, e⟩ := Option.bind_eq_some_iff.mp e
  cases e
  rw [hK] at h1 h2
  have fin := k _ _ (Same.refl _) (dBl (b := !c))
  rcases in_cases h1 h2 e1 with ⟨a, xs, h3, h4, h5, h6, rfl⟩ | ⟨i, j, h3, h4, rfl⟩ | ⟨q, qs, h3, h4, h5, h6, rfl⟩ | ⟨a, o, h3, h4, rfl⟩
  · exact .inl ⟨a, xs, h3, h4, h5, h6, fin⟩
  · exact .inr (.inl ⟨i, j, h3, h4, fin⟩)
  · exact .inr (.inr (.inl ⟨q, qs, h3, h4, h5, h6, fin⟩))
  · exact .inr (.inr (.inr ⟨a, o, h3, h4, fin⟩))
end
end NL

/-! NL7: built-in functions, methods, stores into lists and dicts -/
namespace NL
open PySem PySem.Spec L2
open PyProof.Rows hiding St

/-- calls by values -/
def one (g : D → Option D) : List D → Option D
  | [d] => g d
  | _ => none
def two (g : D → D → Option D) : List D → Option D
  | [a, b] => g a b
  | _ => none
section
variable {K : Frag} {H : Hp} {A : Addr → Prop}
theorem one_inv {g : D → Option D} {ds : List D} {vs : List V} {d : D} (h : BDens K H A ds vs) (e : one g ds = some d) : ∃ x v, vs = [v] ∧ BDen K H A x v ∧ g x = some d := by
  cases ds with
  | nil => cases e
  | cons a r =>
    cases r with
    | nil =>
      obtain ⟨v, t, rfl, h1, h2⟩ := h
      have h2 : t = [] := h2
      subst h2
      exact ⟨a, v, rfl, h1, e⟩
    | cons _ _ => cases e
theorem two_inv {g : D → D → Option D} {ds : List D} {vs : List V} {d : D} (h : BDens K H A ds vs) (e : two g ds = some d) : ∃ x y v w, vs = [v, w] ∧ BDen K H A x v ∧ BDen K H A y w ∧ g x y = some d := by
  cases ds with
  | nil => cases e
  | cons a r =>
    cases r with
    | nil => cases e
    | cons b r =>
      cases r with
      | nil =>
        obtain ⟨v, t, rfl, h1, w, t2, rfl, h2, h3⟩ := h
        have h3 : t2 = [] := h3
        subst h3
        exact ⟨a, b, v, w, rfl, h1, h2, e⟩
      | cons _ _ => cases e
/-- the items of what is a list or a tuple -/
def items : D → Option (List D)
  | .lst l => some l
  | .fl l => some l
  | .tup l => some l
  | _ => none
theorem items_ok {d : D} {v : V} {l : List D} (h : BDen K H A d v) (e : items d = some l) : ∃ a xs, v = .ref a ∧ (SqL K H a xs ∨ SqT K H a xs) ∧ Dens K H A l xs := by
  cases d with
  | lst l => cases e; obtain ⟨a, xs, e1, s, r⟩ := bLst h; exact ⟨a, xs, e1, .inl (SqL.of s), r⟩
  | fl l => cases e; obtain ⟨a, xs, e1, s, r⟩ := bFl h; exact ⟨a, xs, e1, .inl s, r⟩
  | tup l => cases e; obtain ⟨a, xs, e1, s, r⟩ := bTup h; exact ⟨a, xs, e1, .inr s, r⟩
  | _ => cases e
/-- the items of what is a list -/
def itemsL : D → Option (List D)
  | .lst l => some l
  | .fl l => some l
  | _ => none
theorem itemsL_ok {d : D} {v : V} {l : List D} (h : BDen K H A d v) (e : itemsL d = some l) : ∃ a xs, v = .ref a ∧ SqL K H a xs ∧ Dens K H A l xs := by
  cases d with
  | lst l => cases e; obtain ⟨a, xs, e1, s, r⟩ := bLst h; exact ⟨a, xs, e1, SqL.of s, r⟩
  | fl l => cases e; obtain ⟨a, xs, e1, s, r⟩ := bFl h; exact ⟨a, xs, e1, s, r⟩
  | _ => cases e
def asBools : List D → Option (List Bool)
  | [] => some []
  | .bl b :: l => (asBools l).bind fun r => some (b :: r)
  | _ => none
theorem asBools_ok : ∀ {l : List D} {xs : List V} {ns : List Bool}, Dens K H A l xs → asBools l = some ns → xs = ns.map V.bl
  | [], xs, ns, h, e => by rw [Dens] at h; cases e; rw [h]; rfl
  | d :: l, xs, ns, h, e => by
    rw [Dens] at h
    obtain ⟨x, r, e1, h1, h2⟩ := h
    cases d with
    | bl i =>
      unfold asBools at e
      obtain ⟨r', e2, e⟩ := Option.bind_eq_some_iff.mp e
      cases e
      rw [Den] at h1
      rw [e1, h1, asBools_ok h2 e2]
      rfl
    | _ => cases e
theorem dInts : ∀ ns : List Int, Dens K H A (ns.map D.int) (ns.map V.int)
  | [] => .nil
  | n :: ns => .cons dInt (dInts ns)
end
def insI (n : Int) : List Int → List Int
  | [] => [n]
  | m :: l => if n ≤ m then n :: m :: l else m :: insI n l
def sortI : List Int → List Int
  | [] => []
  | n :: l => insI n (sortI l)
theorem insI_perm (n : Int) : ∀ l : List Int, (insI n l).Perm (n :: l)
  | [] => .refl _
  | m :: l => by
    unfold insI
    split
    · exact .refl _
    · exact ((insI_perm n l).cons m).trans (.swap n m l)
theorem sortI_perm : ∀ l : List Int, (sortI l).Perm l
  | [] => .refl _
  | n :: l => (insI_perm n _).trans ((sortI_perm l).cons n)
theorem insI_sorted (n : Int) : ∀ l : List Int, l.Pairwise (· ≤ ·) → (insI n l).Pairwise (· ≤ ·)
  | [], _ => by simp [insI]
  | m :: l, h => by
    unfold insI
    rw [List.pairwise_cons] at h
    split
    · rename_i hn
      rw [List.pairwise_cons]
      refine ⟨fun x hx => ?_, List.pairwise_cons.mpr h⟩
      rcases List.mem_cons.mp hx with rfl | hx
      · exact hn
      · exact Int.le_trans hn (h.1 x hx)
    · rename_i hn
      rw [List.pairwise_cons]
      refine ⟨fun x hx => ?_, insI_sorted n l h.2⟩
      rcases List.mem_cons.mp ((insI_perm n l).mem_iff.mp hx) with rfl | hx
      · omega
      · exact h.1 x hx
theorem sortI_sorted : ∀ l : List Int, (sortI l).Pairwise (· ≤ ·)
  | [] => List.Pairwise.nil
  | n :: l => insI_sorted n _ (sortI_sorted l)
def maxI : Int → List Int → Int
  | m, [] => m
  | m, n :: l => maxI (if n > m then n else m) l
def minI : Int → List Int → Int
  | m, [] => m
  | m, n :: l => minI (if n < m then n else m) l
theorem maxI_ok : ∀ (l : List Int) (m : Int), maxI m l ∈ m :: l ∧ ∀ y ∈ m :: l, y ≤ maxI m l
  | [], m => ⟨List.mem_cons_self, fun y h => by
    have e : y = m := by simpa using h
    rw [e]; exact Int.le_refl _⟩
  | n :: l, m => by
    obtain ⟨h1, h2⟩ := maxI_ok l (if n > m then n else m)
    unfold maxI
    refine ⟨?_, fun y hy => ?_⟩
    · rcases List.mem_cons.mp h1 with e | e
      · rw [e]; split <;> simp
      · exact List.mem_cons_of_mem _ (List.mem_cons_of_mem _ e)
    · have h3 := h2 _ List.mem_cons_self
      rcases List.mem_cons.mp hy with e | hy
      · subst e; split at h3 <;> first | (split <;> omega) | omega
      · rcases List.mem_cons.mp hy with e | hy
        · subst e; split at h3 <;> first | (split <;> omega) | omega
        · exact h2 y (List.mem_cons_of_mem _ hy)
theorem minI_ok : ∀ (l : List Int) (m : Int), minI m l ∈ m :: l ∧ ∀ y ∈ m :: l, minI m l ≤ y
  | [], m => ⟨List.mem_cons_self, fun y h => by
    have e : y = m := by simpa using h
    rw [e]; exact Int.le_refl _⟩
  | n :: l, m => by
    obtain ⟨h1, h2⟩ := minI_ok l (if n < m then n else m)
    unfold minI
    refine ⟨?_, fun y hy => ?_⟩
    · rcases List.mem_cons.mp h1 with e | e
      · rw [e]; split <;> simp
      · exact List.mem_cons_of_mem _ (List.mem_cons_of_mem _ e)
    · have h3 := h2 _ List.mem_cons_self
      rcases List.mem_cons.mp hy with e | hy
      · subst e; split at h3 <;> first | (split <;> omega) | omega
      · rcases List.mem_cons.mp hy with e | hy
        · subst e; split at h3 <;> first | (split <;> omega) | omega
        · exact h2 y (List.mem_cons_of_mem _ hy)

section
variable {X : Cx} {C : Cf}
def hLen : D → Option D
  | .str x => if x.length ≤ sizeLine then some (.int x.length) else none
  | .dK ks _ => some (.int ks.length)
  | d => (items d).bind fun l => some (.int l.length)
theorem c_len (hK : C.K = X.K) : CallB X C (.builtin "len") (one hLen) := by
  refine ⟨_, CallR.or call_len_seq (CallR.or L2.call_len_str call_lenD), fun p ds d vs Q R h e k => ?_⟩
  obtain ⟨x, v, rfl, h1, e⟩ := one_inv h e
  have fin : ∀ n : Nat, d = .int n → Q (.int n) p.H := fun n e => k _ _ (Same.refl _) (e ▸ dInt)
  unfold hLen at e
  split at e
  · split at e
    · rename_i hz
      cases e
      cases bStr h1
      exact .inr (.inl ⟨_, rfl, hz, fin _ rfl⟩)
    · cases e
  · cases e
    obtain ⟨a, kvs, rfl, s, r, _⟩ := h1
    refine .inr (.inr ⟨a, kvs, rfl, s, ?_⟩)
    have hl : (kvs.map (·.1)).length = kvs.length := List.length_map _
    rw [← hl, r]
    exact fin _ rfl
  · obtain ⟨l, e1, e⟩ := Option.bind_eq_some_iff.mp e
    cases e
    obtain ⟨a, xs, rfl, s, r⟩ := items_ok h1 e1
    rw [hK] at s
    refine .inl ⟨a, xs, rfl, s, ?_⟩
    rw [← r.length]
    exact fin _ rfl
def hAbs : D → Option D
  | .int i => some (.int (if i < 0 then -i else i))
  | _ => none
theorem c_abs : CallB X C (.builtin "abs") (one hAbs) := by
  refine ⟨_, call_abs, fun p ds d vs Q R h e k => ?_⟩
  obtain ⟨x, v, rfl, h1, e⟩ := one_inv h e
  unfold hAbs at e
  split at e
  · cases e; cases bInt h1; exact ⟨_, rfl, k _ _ (Same.refl _) dInt⟩
  · cases e
def hInt : D → Option D
  | .int i => some (.int i)
  | .bl b => some (.int (if b then 1 else 0))
  | _ => none
theorem c_int : CallB X C (.type "int") (one hInt) := by
  refine ⟨_, call_int1, fun p ds d vs Q R h e k => ?_⟩
  obtain ⟨x, v, rfl, h1, e⟩ := one_inv h e
  unfold hInt at e
  split at e
  · cases e; cases bInt h1; exact .inl ⟨_, rfl, k _ _ (Same.refl _) dInt⟩
  · cases e; cases bBl h1; exact .inr ⟨_, rfl, k _ _ (Same.refl _) dInt⟩
  · cases e
def hStr : D → Option D
  | .int i => if i.natAbs.log2 < 1920 then some (.str (toString i)) else none
  | _ => none
theorem c_str : CallB X C (.type "str") (one hStr) := by
  refine ⟨_, call_str_int, fun p ds d vs Q R h e k => ?_⟩
  obtain ⟨x, v, rfl, h1, e⟩ := one_inv h e
  unfold hStr at e
  split at e
  · split at e
    · rename_i hz
      cases e; cases bInt h1; exact ⟨_, rfl, hz, k _ _ (Same.refl _) dStr⟩
    · cases e
  · cases e
def hList (d : D) : Option D := (items d).bind fun l => some (.lst l)
def hTuple (d : D) : Option D := (items d).bind fun l => some (.tup l)
theorem c_tuple (hK : C.K = X.K) : CallB X C (.type "tuple") (one hTuple) := by
  refine ⟨_, call_tuple_of, fun p ds d vs Q R h e k => ?_⟩
  obtain ⟨x, v, rfl, h1, e⟩ := one_inv h e
  obtain ⟨l, e1, e⟩ := Option.bind_eq_some_iff.mp e
  cases e
  cases x with
  | tup l' =>
    cases e1
    obtain ⟨a, xs, rfl, s, r⟩ := bTup h1
    exact ⟨a, xs, rfl, .inr ⟨hK ▸ s, k _ _ (Same.refl _) (bTupD h1)⟩⟩
  | lst l' =>
    cases e1
    obtain ⟨a, xs, rfl, s, r⟩ := bLst h1
    refine ⟨a, xs, rfl, .inl ⟨SqL.of s, fun q hq => ?_⟩⟩
    obtain ⟨s2, dn⟩ := newT R hq r
    exact k _ _ s2 dn
  | fl l' =>
    cases e1
    obtain ⟨a, xs, rfl, s, r⟩ := bFl h1
    refine ⟨a, xs, rfl, .inl ⟨hK ▸ s, fun q hq => ?_⟩⟩
    obtain ⟨s2, dn⟩ := newT R hq r
    exact k _ _ s2 dn
  | _ => cases e1
def hMax2 : D → D → Option D
  | .int i, .int j => some (.int (if j > i then j else i))
  | _, _ => none
def hMin2 : D → D → Option D
  | .int i, .int j => some (.int (if j < i then j else i))
  | _, _ => none
def hMax1 (d : D) : Option D := (itemsL d).bind fun l => (asInts l).bind fun ns => match ns with
  | [] => none
  | n :: ns => some (.int (maxI n ns))
def hMin1 (d : D) : Option D := (itemsL d).bind fun l => (asInts l).bind fun ns => match ns with
  | [] => none
  | n :: ns => some (.int (minI n ns))
def hMax (ds : List D) : Option D := match ds with
  | [d] => hMax1 d
  | [a, b] => hMax2 a b
  | _ => none
def hMin (ds : List D) : Option D := match ds with
  | [d] => hMin1 d
  | [a, b] => hMin2 a b
  | _ => none
theorem c_max (hK : C.K = X.K) (hc : X.calm = true) : CallB X C (.builtin "max") hMax := by
  refine ⟨_, CallR.or (call_max2 hc) (cr_max hc), fun p ds d vs Q R h e k => ?_⟩
  unfold hMax at e
  split at e
  · rename_i x
    obtain ⟨x', v, rfl, h1, e⟩ := one_inv (g := hMax1) h e
    obtain ⟨l, e1, e⟩ := Option.bind_eq_some_iff.mp e
    obtain ⟨ns, e2, e⟩ := Option.bind_eq_some_iff.mp e
    obtain ⟨a, xs, rfl, s, r⟩ := itemsL_ok h1 e1
    cases ns with
    | nil => cases e
    | cons n ns =>
      cases e
      rw [asInts_ok r e2, hK] at s
      refine .inr ⟨a, n :: ns, rfl, s, by simp, fun m m1 m2 => ?_⟩
      obtain ⟨g1, g2⟩ := maxI_ok ns n
      have : m = maxI n ns := Int.le_antisymm (g2 m m1) (m2 _ g1)
      rw [this]
      exact k _ _ (Same.refl _) dInt
  · rename_i x y
    obtain ⟨x', y', v, w, rfl, h1, h2, e⟩ := two_inv (g := hMax2) h e
    unfold hMax2 at e
    split at e
    · cases e; cases bInt h1; cases bInt h2
      exact .inl ⟨_, _, rfl, k _ _ (Same.refl _) dInt⟩
    · cases e
  · cases e
theorem c_min (hK : C.K = X.K) (hc : X.calm = true) : CallB X C (.builtin "min") hMin := by
  refine ⟨_, CallR.or (call_min2 hc) (cr_min hc), fun p ds d vs Q R h e k => ?_⟩
  unfold hMin at e
  split at e
  · rename_i x
    obtain ⟨x', v, rfl, h1, e⟩ := one_inv (g := hMin1) h e
    obtain ⟨l, e1, e⟩ := Option.bind_eq_some_iff.mp e
    obtain ⟨ns, e2, e⟩ := Option.bind_eq_some_iff.mp e
    obtain ⟨a, xs, rfl, s, r⟩ := itemsL_ok h1 e1
    cases ns with
    | nil => cases e
    | cons n ns =>
      cases e
      rw [asInts_ok r e2, hK] at s
      refine .inr ⟨a, n :: ns, rfl, s, by simp, fun m m1 m2 => ?_⟩
      obtain ⟨g1, g2⟩ := minI_ok ns n
      have : m = minI n ns := Int.le_antisymm (m2 _ g1) (g2 m m1)
      rw [this]
      exact k _ _ (Same.refl _) dInt
  · rename_i x y
    obtain ⟨x', y', v, w, rfl, h1, h2, e⟩ := two_inv (g := hMin2) h e
    unfold hMin2 at e
    split at e
    · cases e; cases bInt h1; cases bInt h2
      exact .inl ⟨_, _, rfl, k _ _ (Same.refl _) dInt⟩
    · cases e
  · cases e
def hSum (d : D) : Option D := (itemsL d).bind fun l => (asInts l).bind fun ns => some (.int ns.sum)
theorem c_sum (hK : C.K = X.K) (hc : X.calm = true) : CallB X C (.builtin "sum") (one hSum) := by
  refine ⟨_, cr_sum hc, fun p ds d vs Q R h e k => ?_⟩
  obtain ⟨x, v, rfl, h1, e⟩ := one_inv h e
  obtain ⟨l, e1, e⟩ := Option.bind_eq_some_iff.mp e
  obtain ⟨ns, e2, e⟩ := Option.bind_eq_some_iff.mp e
  cases e
  obtain ⟨a, xs, rfl, s, r⟩ := itemsL_ok h1 e1
  rw [asInts_ok r e2, hK] at s
  exact ⟨a, ns, rfl, s, k _ _ (Same.refl _) dInt⟩
def hAny (d : D) : Option D := (itemsL d).bind fun l => (asBools l).bind fun ns => some (.bl (ns.any id))
def hAll (d : D) : Option D := (itemsL d).bind fun l => (asBools l).bind fun ns => some (.bl (ns.all id))
theorem c_any (hK : C.K = X.K) (hc : X.calm = true) : CallB X C (.builtin "any") (one hAny) := by
  refine ⟨_, cr_any hc, fun p ds d vs Q R h e k => ?_⟩
  obtain ⟨x, v, rfl, h1, e⟩ := one_inv h e
  obtain ⟨l, e1, e⟩ := Option.bind_eq_some_iff.mp e
  obtain ⟨ns, e2, e⟩ := Option.bind_eq_some_iff.mp e
  cases e
  obtain ⟨a, xs, rfl, s, r⟩ := itemsL_ok h1 e1
  rw [asBools_ok r e2, hK] at s
  exact ⟨a, ns, rfl, s, k _ _ (Same.refl _) dBl⟩
theorem c_all (hK : C.K = X.K) (hc : X.calm = true) : CallB X C (.builtin "all") (one hAll) := by
  refine ⟨_, cr_all hc, fun p ds d vs Q R h e k => ?_⟩
  obtain ⟨x, v, rfl, h1, e⟩ := one_inv h e
  obtain ⟨l, e1, e⟩ := Option.bind_eq_some_iff.mp e
  obtain ⟨ns, e2, e⟩ := Option.bind_eq_some_iff.mp e
  cases e
  obtain ⟨a, xs, rfl, s, r⟩ := itemsL_ok h1 e1
  rw [asBools_ok r e2, hK] at s
  exact ⟨a, ns, rfl, s, k _ _ (Same.refl _) dBl⟩
def hSorted (d : D) : Option D := (itemsL d).bind fun l => (asInts l).bind fun ns => some (.lst ((sortI ns).map D.int))
theorem c_sorted (hK : C.K = X.K) : CallB X C (.builtin "sorted") (one hSorted) := by
  refine ⟨_, cr_sortedI, fun p ds d vs Q R h e k => ?_⟩
  obtain ⟨x, v, rfl, h1, e⟩ := one_inv h e
  obtain ⟨l, e1, e⟩ := Option.bind_eq_some_iff.mp e
  obtain ⟨ns, e2, e⟩ := Option.bind_eq_some_iff.mp e
  cases e
  obtain ⟨a, xs, rfl, s, r⟩ := itemsL_ok h1 e1
  rw [asInts_ok r e2, hK] at s
  refine ⟨a, ns, rfl, s, fun ns' q hp hs hq => ?_⟩
  have : ns' = sortI ns := PySem.W.ksm_same (hp.trans (sortI_perm ns).symm) hs (sortI_sorted ns)
  subst this
  obtain ⟨s2, dn⟩ := newL R hq (dInts (sortI ns))
  exact k _ _ s2 dn
/-- isinstance -/
def tyOf : D → Option TyN
  | .non => some .non
  | .bl _ => some .bl
  | .int _ => some .int
  | .str _ => some .str
  | .tup _ => some .tup
  | .lst _ => some .lst
  | .dK _ _ => some .dct
  | .dT _ _ => some .dct
  | _ => none
def subTy : TyN → TyN → Bool
  | .int, .int => true
  | .bl, .bl => true
  | .bl, .int => true
  | .str, .str => true
  | .lst, .lst => true
  | .tup, .tup => true
  | .dct, .dct => true
  | .non, .non => true
  | _, _ => false
theorem kit_sub {K : Frag} : ∀ a b : TyN, b ≠ .non → PySem.W.kitOne K (.type a.name) (.type b.name) = some (subTy a b) := by
  intro a b hb
  refine kit_ty ?_
  cases a <;> cases b <;> first | (exact absurd rfl hb) | decide +kernel
theorem tyOf_ok {K : Frag} {H : Hp} {A : Addr → Prop} {d : D} {v : V} {t : TyN} (h : BDen K H A d v) (e : tyOf d = some t) : TyX K H v (.type t.name) := by
  cases d with
  | non => cases e; cases bNon h; exact .base .non
  | bl b => cases e; cases bBl h; exact .base (.bl b)
  | int i => cases e; cases bInt h; exact .base (.int i)
  | str x => cases e; cases bStr h; exact .base (.str x)
  | tup l => cases e; obtain ⟨a, xs, rfl, s, _⟩ := bTupH h; exact .base (.tup s)
  | lst l => cases e; obtain ⟨a, xs, rfl, s, _⟩ := bLst h; exact .base (.lst s)
  | dK ks l => cases e; obtain ⟨a, xs, rfl, s, _⟩ := h; exact .base (.dK s)
  | dT ks l => cases e; obtain ⟨a, xs, rfl, s, _⟩ := h; exact .base (.dT s)
  | _ => cases e
def anyTy (t : TyN) : List D → Option Bool
  | [] => some false
  | .ty .non :: _ => none
  | .ty n :: l => (anyTy t l).bind fun r => some (subTy t n || r)
  | _ => none
def hIsi (x c : D) : Option D := (tyOf x).bind fun t => match c with
  | .ty .non => none
  | .ty n => some (.bl (subTy t n))
  | .tup l => (anyTy t l).bind fun b => some (.bl b)
  | _ => none
theorem anyTy_ok {K : Frag} {H : Hp} {A : Addr → Prop} {t : TyN} : ∀ {l : List D} {xs : List V} {b : Bool}, Dens K H A l xs → anyTy t l = some b → ∃ us, Paired ClsV xs us ∧ PySem.W.kitAny K (.type t.name) us = some b
  | [], xs, b, h, e => by rw [Dens] at h; cases e; subst h; exact ⟨[], .nil, kitAny_nil⟩
  | d :: l, xs, b, h, e => by
    rw [Dens] at h
    obtain ⟨x, r, rfl, h1, h2⟩ := h
    unfold anyTy at e
    split at e
    · rename_i heq; cases heq
    · cases e
    · rename_i n _ hn heq
      cases heq
      obtain ⟨c, e1, e⟩ := Option.bind_eq_some_iff.mp e
      cases e
      obtain ⟨us, u1, u2⟩ := anyTy_ok h2 e1
      rw [Den] at h1
      subst h1
      refine ⟨_ :: us, .cons (.ty _) u1, kitAny_cons (kit_sub t n (fun z => hn (by rw [z]))) (fun hf => ?_) (fun ht => ?_)⟩
      · rw [hf, Bool.false_or]; exact u2
      · rw [ht, Bool.true_or]
    · cases e
theorem c_isi (hK : C.K = X.K) : CallB X C (.builtin "isinstance") (two hIsi) := by
  refine ⟨_, CallR.or call_isi call_isiT, fun p ds d vs Q R h e k => ?_⟩
  obtain ⟨x, c, v, w, rfl, h1, h2, e⟩ := two_inv h e
  obtain ⟨t, e1, e⟩ := Option.bind_eq_some_iff.mp e
  have ht := tyOf_ok h1 e1
  rw [hK] at ht
  split at e
  · cases e
  · rename_i hne _
    cases e
    cases bTy h2
    exact .inl ⟨_, _, _, _, _, rfl, .ty _, ht, kit_sub t _ (fun z => hne z), k _ _ (Same.refl _) dBl⟩
  · obtain ⟨b, e2, e⟩ := Option.bind_eq_some_iff.mp e
    cases e
    obtain ⟨a, xs, rfl, s, r⟩ := bTupH h2
    obtain ⟨us, u1, u2⟩ := anyTy_ok r e2
    rw [hK] at u2
    exact .inr ⟨_, a, xs, _, us, b, rfl, s, u1, ht, u2, k _ _ (Same.refl _) dBl⟩
  · cases e
/-- gcd, lcm, isqrt of math -/
def hGcd : D → D → Option D
  | .int a, .int b => some (.int (Nat.gcd a.natAbs b.natAbs : Nat))
  | _, _ => none
theorem c_gcd : CallB X C (.builtin "math.gcd") (two hGcd) := by
  refine ⟨_, cr_gcd, fun p ds d vs Q R h e k => ?_⟩
  obtain ⟨x, c, v, w, rfl, h1, h2, e⟩ := two_inv h e
  unfold hGcd at e
  split at e
  · cases e; cases bInt h1; cases bInt h2
    exact ⟨_, _, rfl, k _ _ (Same.refl _) dInt⟩
  · cases e
def lcmN (a b : Int) : Int := ((Nat.lcm 1 a.natAbs).lcm b.natAbs : Nat)
def hLcm : D → D → Option D
  | .int a, .int b => if decide (a.natAbs < 2 ^ 64) && decide (b.natAbs < 2 ^ 64) && decide ((lcmN a b).natAbs.log2 < 1000) then some (.int (lcmN a b)) else none
  | _, _ => none
theorem cr_lcm : CallR X (.builtin "math.lcm") (fun vs H Q => ∃ a b : Int, vs = [.int a, .int b] ∧ a.natAbs < 2 ^ 64 ∧ b.natAbs < 2 ^ 64 ∧ (lcmN a b).natAbs.log2 < 1000 ∧ Q (.int (lcmN a b)) H) := by
  intro pins s σ H vs us Q I r h
  obtain ⟨a, b, rfl, h1, h2, h3, q⟩ := h
  obtain ⟨t, u, rfl⟩ := Vals.int2 r
  have hb : bitsLine = 134217728 := by decide
  exact PySem.W.mg_lcm h1 h2 (by show (lcmN a b).natAbs.log2 < bitsLine; omega) ⟨.int _, H, I.tok _, ⟨_, rfl⟩, q⟩
theorem c_lcm : CallB X C (.builtin "math.lcm") (two hLcm) := by
  refine ⟨_, cr_lcm, fun p ds d vs Q R h e k => ?_⟩
  obtain ⟨x, c, v, w, rfl, h1, h2, e⟩ := two_inv h e
  unfold hLcm at e
  split at e
  · split at e
    · rename_i hz
      simp only [Bool.and_eq_true, decide_eq_true_eq] at hz
      cases e; cases bInt h1; cases bInt h2
      exact ⟨_, _, rfl, hz.1.1, hz.1.2, hz.2, k _ _ (Same.refl _) dInt⟩
    · cases e
  · cases e
def hIsqrt : D → Option D
  | .int a => if decide (0 ≤ a) && decide (a < 2 ^ 64) then some (.int (Float64.isqrt a.toNat : Nat)) else none
  | _ => none
theorem cr_isqrt : CallR X (.builtin "math.isqrt") (fun vs H Q => ∃ a : Int, vs = [.int a] ∧ 0 ≤ a ∧ a < 2 ^ 64 ∧ Q (.int (Float64.isqrt a.toNat : Nat)) H) := by
  intro pins s σ H vs us Q I r h
  obtain ⟨a, rfl, h1, h2, q⟩ := h
  obtain ⟨u, rfl, t, rfl⟩ := vals1 r
  exact PySem.W.mg_isqrt h1 h2 ⟨.int _, H, I.tok _, ⟨_, rfl⟩, q⟩
theorem c_isqrt : CallB X C (.builtin "math.isqrt") (one hIsqrt) := by
  refine ⟨_, cr_isqrt, fun p ds d vs Q R h e k => ?_⟩
  obtain ⟨x, v, rfl, h1, e⟩ := one_inv h e
  unfold hIsqrt at e
  split at e
  · split at e
    · rename_i hz
      simp only [Bool.and_eq_true, decide_eq_true_eq] at hz
      cases e; cases bInt h1
      exact ⟨_, rfl, hz.1, hz.2, k _ _ (Same.refl _) dInt⟩
    · cases e
  · cases e
end
/-- a built-in of a module's name (from math import ..) -/
theorem s_callM {X : Cx} {C : Cf} {e : Expr} {pos : Pos} {x : Str} {p : Pos} {es : List Expr} {id : String} {g : List D → Option D} {ms : SemR} (hc : CallB X C (.builtin id) g) (hg : Gl X x) (hm : X.mg x = some (.builtin id)) (ha : PA X (e :: es) (tR C ms))
    (hdb : (x == ("__debug__" : Str)) = false) (he : starEach (e :: es) X.env = (false, eval e X.env) :: starEach es X.env) (hpl : (backTo pos (starEach es X.env)).any (·.1) = false) : PE X (.Call (.Name x p) (e :: es) [] pos) (tS C (sCallB g ms)) := by
  obtain ⟨r, hr, hq⟩ := hc
  exact peOf (pe_callBfun hr hg hm ha hdb he hpl) fun sg H Q h => callb hq h
/-- list(x): a new list -/
def fList (ms : SemR) : SemF := fun env => (ms env).bind fun x => (derefs x.2 x.1).bind fun ds => (one hList ds).bind fun d => some (d, x.2)
theorem f_list {X : Cx} {C : Cf} {e : Expr} {pos : Pos} {p : Pos} {ms : SemR} (hK : C.K = X.K) (hg : Gl X "list") (hm : X.mg "list" = none) (hv : bootBuiltins "list" = some (.type "list")) (ha : PA X [e] (tR C ms))
    (he : starEach [e] X.env = (false, eval e X.env) :: starEach [] X.env) (hpl : (backTo pos (starEach [] X.env)).any (·.1) = false) : PE X (.Call (.Name "list" p) [e] [] pos) (tF C (fList ms)) := by
  refine peOf (pe_callTy call_list_of hg hm hv ha (by decide) (by decide) he hpl) fun sg H Q w => ?_
  obtain ⟨ow, env, d, env', e, R, k⟩ := w
  unfold fList at e
  obtain ⟨⟨rs, e1⟩, h1, e⟩ := Option.bind_eq_some_iff.mp e
  obtain ⟨ds, h2, e⟩ := Option.bind_eq_some_iff.mp e
  obtain ⟨d', h3, e⟩ := Option.bind_eq_some_iff.mp e
  cases e
  refine ⟨ow, env, rs, _, h1, R, fun vs H1 ow1 R1 T1 D1 => ?_⟩
  obtain ⟨x, v, rfl, b1, h3⟩ := one_inv (D1.b R1 h2) h3
  obtain ⟨l, h4, h3⟩ := Option.bind_eq_some_iff.mp h3
  cases h3
  obtain ⟨a, xs, rfl, s, r⟩ := items_ok b1 h4
  refine ⟨a, xs, rfl, hK ▸ s, fun q hq => ?_⟩
  obtain ⟨R3, T3, mv⟩ := R1.newAt (.lst xs) hq
  have hqH : H q = none := by
    cases z : H q with
    | none => rfl
    | some o => exact absurd hq (T1.trk q (by show H q ≠ none; rw [z]; exact fun w => nomatch w))
  exact k q _ ow1 hqH R3 (T1.trans T3) ⟨xs, upd_same, Dens.newAt mv r⟩
end NL

/-! NL8: methods, stores into lists and dicts, defs -/
namespace NL
open PySem PySem.Spec L2
open PyProof.Rows hiding St

/-! ### stores -/
def replD {κ : Type} [DecidableEq κ] : List κ → List D → κ → D → List D
  | k :: ks, d :: ds, x, v => (if k = x then v else d) :: replD ks ds x v
  | _, _, _, _ => []
def hasK {κ : Type} [DecidableEq κ] : List κ → κ → Bool
  | [], _ => false
  | k :: ks, x => if k = x then true else hasK ks x
def putD {κ : Type} [DecidableEq κ] (ks : List κ) (vs : List D) (x : κ) (v : D) : List κ × List D := if hasK ks x then (ks, replD ks vs x v) else (ks ++ [x], vs ++ [v])
def setD (t k v : D) : Option D := match t with
  | .lst l => match k with
    | .int i => (ixN l.length i).bind fun j => some (.lst (l.set j v))
    | _ => none
  | .dK ks vs => (asKey k).bind fun k => if ks.length < sizeLine then some (.dK (putD ks vs k v).1 (putD ks vs k v).2) else none
  | .dT ks vs => match k with
    | .tup l => (asKeys l).bind fun k => if ks.length < sizeLine then some (.dT (putD ks vs k v).1 (putD ks vs k v).2) else none
    | _ => none
  | _ => none
theorem hasK_ok {κ : Type} [DecidableEq κ] (x : κ) : ∀ kvs : List (κ × V), (kvs.any fun kv => decide (kv.1 = x)) = hasK (kvs.map (·.1)) x
  | [] => rfl
  | (k, w) :: r => by
    rw [List.any_cons, hasK_ok x r, List.map_cons, hasK]
    by_cases h : k = x
    · rw [if_pos h, show decide ((k, w).1 = x) = true from decide_eq_true h, Bool.true_or]
    · rw [if_neg h, show decide ((k, w).1 = x) = false from decide_eq_false h, Bool.false_or]
theorem replD_ok {κ : Type} [DecidableEq κ] {K : Frag} {H : Hp} {A : Addr → Prop} {x : κ} {v : V} {d : D} (hd : Den K H A d v) : ∀ (kvs : List (κ × V)) (ds : List D), Dens K H A ds (kvs.map (·.2)) →
    (kvs.map fun kv => if kv.1 = x then (kv.1, v) else kv).map (·.1) = kvs.map (·.1) ∧ Dens K H A (replD (kvs.map (·.1)) ds x d) ((kvs.map fun kv => if kv.1 = x then (kv.1, v) else kv).map (·.2))
  | [], ds, h => by
    have : ds = [] := List.eq_nil_of_length_eq_zero (by rw [h.length]; rfl)
    subst this
    exact ⟨rfl, .nil⟩
  | (k, w) :: r, [], h => by rw [Dens] at h; cases h
  | (k, w) :: r, d' :: ds, h => by
    rw [Dens] at h
    obtain ⟨y, t, e, h1, h2⟩ := h
    cases e
    obtain ⟨i1, i2⟩ := replD_ok hd r ds h2
    simp only [List.map_cons, replD]
    by_cases hk : k = x
    · rw [if_pos hk, if_pos hk]
      exact ⟨by rw [i1], .cons hd i2⟩
    · rw [if_neg hk, if_neg hk]
      exact ⟨by rw [i1], .cons h1 i2⟩
theorem putK_den {κ : Type} [DecidableEq κ] {K : Frag} {H : Hp} {A : Addr → Prop} {x : κ} {v : V} {d : D} (hd : Den K H A d v) (kvs : List (κ × V)) (ds : List D) (h : Dens K H A ds (kvs.map (·.2))) :
    (putK kvs x v).map (·.1) = (putD (kvs.map (·.1)) ds x d).1 ∧ Dens K H A (putD (kvs.map (·.1)) ds x d).2 ((putK kvs x v).map (·.2)) := by
  unfold putK putD
  rw [hasK_ok]
  cases hasK (kvs.map (·.1)) x with
  | true =>
    rw [if_pos rfl, if_pos rfl]
    exact replD_ok hd kvs ds h
  | false =>
    rw [if_neg Bool.false_ne_true, if_neg Bool.false_ne_true, List.map_append, List.map_append]
    exact ⟨rfl, h.append (.one hd)⟩

section
variable {X : Cx} {C : Cf} {e a b : Expr} {es : List Expr} {pos p' : Pos} {m m1 m2 : Sem} {ms : SemR}
def rPutD : V → V → V → Hp → (Hp → Prop) → Prop := fun o i v H Q => ∃ a H', o = .ref a ∧ DPut H a i v H' ∧ Q H'
theorem set_dict (hu : X.A.units + 1 < cLine) : PSet X rPutD := by
  intro pins s σ H o i v ov iv u Q I ro ri rv h
  obtain ⟨a, H', rfl, g, q⟩ := h
  cases ro
  exact d_setItem hu I g ri rv fun s' I' => ⟨H', I', q⟩
theorem PSet.or {t t' : V → V → V → Hp → (Hp → Prop) → Prop} (h : PSet X t) (h' : PSet X t') : PSet X (fun o i v H Q => t o i v H Q ∨ t' o i v H Q) := by
  intro pins s σ H o i v ov iv u Q I ro ri rv q
  rcases q with q | q
  · exact h pins s σ H o i v ov iv u Q I ro ri rv q
  · exact h' pins s σ H o i v ov iv u Q I ro ri rv q
/-- an owned thing in slot j is changed by f -/
def upS (j : Nat) (f : D → Option D) (env : Env) : Option Env := match env[j]? with
  | some (.ow t) => (f t).bind fun t' => some (env.set j (.ow t'))
  | some (.io t) => (f t).bind fun t' => some (env.set j (.io t'))
  | _ => none
theorem upS_inv {p : Ps} {j : Nat} {f : D → Option D} {env' : Env} (R : Rel C p) (e : upS j f p.env = some env') :
    ∃ t t' a sl, p.ow j = some a ∧ p.sg[j]? = some (some (.ref a)) ∧ Root C.K p.H (Av C p.ow) t a ∧ f t = some t' ∧ env' = p.env.set j sl ∧ ((p.env[j]? = some (.ow t) ∧ sl = .ow t') ∨ (p.env[j]? = some (.io t) ∧ sl = .io t')) := by
  unfold upS at e
  have s := R.slot j
  cases q : p.env[j]? with
  | none => rw [q] at e; cases e
  | some sl =>
    rw [q] at e s
    cases sl with
    | ow t =>
      obtain ⟨t', e1, e⟩ := Option.bind_eq_some_iff.mp e
      cases e
      obtain ⟨a, g1, g2, g3, _⟩ := s
      exact ⟨t, t', a, _, g1, g2, g3, e1, rfl, .inl ⟨rfl, rfl⟩⟩
    | io t =>
      obtain ⟨t', e1, e⟩ := Option.bind_eq_some_iff.mp e
      cases e
      obtain ⟨a, g1, g2, g3, _⟩ := s
      exact ⟨t, t', a, _, g1, g2, g3, e1, rfl, .inr ⟨rfl, rfl⟩⟩
    | _ => cases e
def owned (env : Env) (j : Nat) : Bool := match env[j]? with
  | some (.ow _) => true
  | some (.io _) => true
  | _ => false
theorem owned_ref {p : Ps} {j : Nat} (R : Rel C p) (h : owned p.env j = true) : ∃ a t, p.sg[j]? = some (some (.ref a)) ∧ Root C.K p.H (Av C p.ow) t a ∧ (p.env[j]? = some (.ow t) ∨ p.env[j]? = some (.io t)) := by
  unfold owned at h
  have s := R.slot j
  cases q : p.env[j]? with
  | none => rw [q] at h; cases h
  | some sl =>
    rw [q] at h s
    cases sl with
    | ow t => obtain ⟨a, g1, g2, g3, _⟩ := s; exact ⟨a, t, g2, g3, .inl rfl⟩
    | io t => obtain ⟨a, g1, g2, g3, _⟩ := s; exact ⟨a, t, g2, g3, .inr rfl⟩
    | _ => cases h
def gSet (j : Nat) (mi : Sem) : SemG := fun d env => if owned env j then (mi env).bind fun x => (deref x.2 x.1).bind fun k => upS j (fun t => setD t k d) x.2 else none
theorem g_set {vs : List Nat} {j : Nat} {x : Str} (hu : X.A.units + 1 < cLine) (hN : X.N[j]? = some x) (hv : Vis X.env.scope x) (hd : (x == ("__debug__" : Str)) = false) (hcd : (x == ("__classdict__" : Str)) = false) (hi : PE X b (tS C m))
    (ha : ∀ v, assign (.Subscript (.Name x p') b pos) X.env v = (do
      let ov ← holding [v] (eval (.Name x p') X.env)
      let iv ← holding [v, ov] (eval b X.env)
      standAt pos
      holding [v, ov, iv] (setItem ov iv v)
      release [v, ov, iv] [])) : PG X (.Subscript (.Name x p') b pos) (tG C vs (gSet j m)) := by
  refine pgOf (pg_sub (pe_var hN hv hd hcd) hi (PSet.or set_list (set_dict hu)) ha) fun v sg H Q w => ?_
  obtain ⟨ow, env, d, env', e, R, dn, k⟩ := w
  unfold gSet at e
  split at e
  rotate_left
  · cases e
  rename_i hown
  obtain ⟨⟨r, e1⟩, h1, e⟩ := Option.bind_eq_some_iff.mp e
  obtain ⟨kd, h2, e⟩ := Option.bind_eq_some_iff.mp e
  obtain ⟨a0, _, ha0, _, _⟩ := owned_ref (p := ⟨ow, sg, H, env⟩) R hown
  refine ⟨.ref a0, ha0, ow, env, r, e1, h1, R, fun y H1 ow1 R1 T1 D1 => ?_⟩
  obtain ⟨t, t', a, sl, g1, g2, g3, g4, rfl, g6⟩ := upS_inv (p := ⟨ow1, sg, H1, e1⟩) R1 e
  have g2 : sg[j]? = some (some (.ref a)) := g2
  have ha0 : sg[j]? = some (some (.ref a0)) := ha0
  rw [ha0] at g2; cases g2
  have kB : BDen C.K H1 (Av C ow1) kd y := D1.b R1 h2
  have dn1 : Den C.K H1 (Av C ow1) d v := Den.go (C := C) T1 dn
  have inA : Av C ow1 a0 := .inr ⟨j, g1⟩
  -- what follows a change of the root
  have fin : ∀ (o : HO), (∀ H', (∀ b u, b ≠ a0 → H1 b = some u → H' b = some u) → H' a0 = some o → Root C.K H' (Av C ow1) t' a0) → Q sg (upd H1 a0 o) := fun o hr => by
    obtain ⟨R2, T2⟩ := mutate (p := ⟨ow1, sg, H1, e1⟩) (sl := sl) R1 g1 g6 hr
    exact k sg _ ow1 R2 (T1.trans T2) .refl
  have mv : ∀ {H' : Hp}, (∀ b u, b ≠ a0 → H1 b = some u → H' b = some u) → ∀ {l : List D} {xs : List V}, Dens C.K H1 (Av C ow1) l xs → Dens C.K H' (Av C ow1) l xs := fun {H'} hk {l xs} r =>
    Dens.to (fun b u e n => hk b u (fun z => n (z ▸ inA)) e) (fun _ _ n => n) l xs r
  unfold setD at g4
  cases t with
  | lst l =>
    dsimp only at g4
    split at g4
    · rename_i i
      obtain ⟨jj, h5, g4⟩ := Option.bind_eq_some_iff.mp g4
      cases g4
      obtain ⟨xs, hx, dx⟩ := g3
      have hx : H1 a0 = some (.lst xs) := hx
      cases bInt kB
      refine .inl ⟨a0, xs, i, jj, rfl, rfl, hx, by rw [← dx.length]; exact h5, fin _ fun H' hk ho => ⟨_, ho, mv hk (dx.set jj dn1)⟩⟩
    · cases g4
  | dK ks ds =>
    dsimp only at g4
    obtain ⟨kk, h5, g4⟩ := Option.bind_eq_some_iff.mp g4
    split at g4
    · rename_i hz
      cases g4
      obtain ⟨kvs, hx, rfl, dx⟩ := g3
      have hx : H1 a0 = some (.dK kvs) := hx
      have hy : y = kV kk := by
        cases kd with
        | int i => exact asKey_ok (K := C.K) (H := H1) (A := Av C ow1) kB h5
        | str i => exact asKey_ok (K := C.K) (H := H1) (A := Av C ow1) kB h5
        | _ => cases h5
      rw [List.length_map] at hz
      obtain ⟨q1, q2⟩ := putK_den (x := kk) dn1 kvs ds dx
      exact .inr ⟨a0, _, rfl, hy ▸ DPut.k hx hz, fin _ fun H' hk ho => ⟨_, ho, q1, mv hk q2⟩⟩
    · cases g4
  | dT ks ds =>
    dsimp only at g4
    split at g4
    · rename_i l
      obtain ⟨kk, h5, g4⟩ := Option.bind_eq_some_iff.mp g4
      split at g4
      · rename_i hz
        cases g4
        obtain ⟨kvs, hx, rfl, dx⟩ := g3
        have hx : H1 a0 = some (.dT kvs) := hx
        obtain ⟨bb, xs, rfl, s2, r2⟩ := bTupH kB
        rw [asKeys_ok r2 h5] at s2
        rw [List.length_map] at hz
        obtain ⟨q1, q2⟩ := putK_den (x := kk) dn1 kvs ds dx
        exact .inr ⟨a0, _, rfl, DPut.t hx s2 hz, fin _ fun H' hk ho => ⟨_, ho, q1, mv hk q2⟩⟩
      · cases g4
    · cases g4
  | _ => cases g4

theorem rdNon {p : Ps} : RDen C p (.val .non) .non := by show Den _ _ _ _ _; rw [Den]
/-! ### append, extend, pop of an owned list -/
def ownedL (env : Env) (j : Nat) : Bool := match env[j]? with
  | some (.ow (.lst _)) => true
  | some (.io (.lst _)) => true
  | _ => false
theorem ownedL_ref {p : Ps} {j : Nat} (R : Rel C p) (h : ownedL p.env j = true) : ∃ a xs, p.sg[j]? = some (some (.ref a)) ∧ p.H a = some (.lst xs) := by
  unfold ownedL at h
  have s := R.slot j
  cases q : p.env[j]? with
  | none => rw [q] at h; cases h
  | some sl =>
    rw [q] at h s
    cases sl with
    | ow t => cases t with
      | lst l => obtain ⟨a, g1, g2, ⟨xs, g3, _⟩, _⟩ := s; exact ⟨a, xs, g2, g3⟩
      | _ => cases h
    | io t => cases t with
      | lst l => obtain ⟨a, g1, g2, ⟨xs, g3, _⟩, _⟩ := s; exact ⟨a, xs, g2, g3⟩
      | _ => cases h
    | _ => cases h
/-- the side conditions of a method's call -/
structure MtOk (X : Cx) (x : Str) (nm : Str) (p' apos pos : Pos) (es : List Expr) : Prop where
  base : attributeBase (.Name x p') nm X.env (eval (.Name x p') X.env) = eval (.Name x p') X.env
  few : ((backTo pos (starEach es X.env)).all (fun x => !x.1) && (backToKw pos (keywordEach [] X.env)).all (fun x => x.1.isSome)
      && decide (es.length + ([] : List Keyword).length + (if ([] : List Keyword).isEmpty then 0 else 1) < 30)) = true
  line : (apos.endLine == pos.line) = true
def apD (v t : D) : Option D := match t with
  | .lst l => if l.length < sizeLine then some (.lst (l ++ [v])) else none
  | _ => none
def sAppend (j : Nat) (m : Sem) : Sem := fun env => if ownedL env j then (m env).bind fun x => (force x.1 x.2).bind fun y => (upS j (apD y.1) y.2).bind fun e => some (.val .non, e) else none
theorem s_append {apos : Pos} {j : Nat} {x : Str} (hN : X.N[j]? = some x) (hv : Vis X.env.scope x) (hd : (x == ("__debug__" : Str)) = false) (hcd : (x == ("__classdict__" : Str)) = false) (he : PE X e (tS C m))
    (mo : MtOk X x "append" p' apos pos [e]) (hs : starEach (e :: []) X.env = (false, eval e X.env) :: starEach [] X.env) (hplain : (backTo pos (starEach [] X.env)).any (·.1) = false) :
    PE X (.Call (.Attribute (.Name x p') "append" apos) [e] [] pos) (tS C (sAppend j m)) := by
  refine peOf (pe_bm PySem.F.plainAttrs_list PySem.F.slot_list_append PySem.F.type_list_append mt_append (pe_var hN hv hd hcd) (pa_cons he pa_nil hs) mo.base mo.few mo.line hs hplain) fun sg H Q w => ?_
  obtain ⟨ow, env, rr, env', e', R, k⟩ := w
  unfold sAppend at e'
  split at e'
  rotate_left
  · cases e'
  rename_i hown
  obtain ⟨⟨r, e1⟩, h1, e'⟩ := Option.bind_eq_some_iff.mp e'
  obtain ⟨⟨d, e2⟩, h2, e'⟩ := Option.bind_eq_some_iff.mp e'
  obtain ⟨e3, h3, e'⟩ := Option.bind_eq_some_iff.mp e'
  cases e'
  obtain ⟨a0, xs0, ha0, hx0⟩ := ownedL_ref (p := ⟨ow, sg, H, env⟩) R hown
  refine ⟨.ref a0, ha0, .inl ⟨rfl, xs0, SqL.of hx0⟩, ow, env, r, e1, h1, R, fun v H1 ow1 R1 T1 D1 => ?_⟩
  obtain ⟨ow2, R2, T2, D2⟩ := force_ok R1 D1 h2
  obtain ⟨t, t', a, sl, g1, g2, g3, g4, rfl, g6⟩ := upS_inv (p := ⟨ow2, sg, H1, e2⟩) R2 h3
  have g2 : sg[j]? = some (some (.ref a)) := g2
  have ha0 : sg[j]? = some (some (.ref a0)) := ha0
  rw [ha0] at g2; cases g2
  unfold apD at g4
  split at g4
  · split at g4
    · rename_i hz
      cases g4
      obtain ⟨xs, hx, dx⟩ := g3
      refine ⟨a0, xs, v, rfl, rfl, hx, by rw [← dx.length]; exact hz, ?_⟩
      have inA : Av C ow2 a0 := .inr ⟨j, g1⟩
      obtain ⟨R3, T3⟩ := mutate (p := ⟨ow2, sg, H1, e2⟩) (sl := sl) (o := .lst (xs ++ [v])) R2 g1 g6 fun H' hk ho => ⟨_, ho, Dens.to (fun b u e n => hk b u (fun z => n (z ▸ inA)) e) (fun _ _ n => n) _ _ (dx.append (.one D2))⟩
      exact k .non _ ow2 R3 (T1.trans (T2.trans T3)) rdNon
    · cases g4
  · cases g4
def exD (v t : D) : Option D := match t with
  | .lst l => match v with
    | .lst m => if l.length + m.length ≤ sizeLine then some (.lst (l ++ m)) else none
    | _ => none
  | _ => none
def sExtend (j : Nat) (m : Sem) : Sem := fun env => if ownedL env j then (m env).bind fun x => (deref x.2 x.1).bind fun y => (upS j (exD y) x.2).bind fun e => some (.val .non, e) else none
theorem s_extend {apos : Pos} {j : Nat} {x : Str} (hN : X.N[j]? = some x) (hv : Vis X.env.scope x) (hd : (x == ("__debug__" : Str)) = false) (hcd : (x == ("__classdict__" : Str)) = false) (he : PE X e (tS C m))
    (mo : MtOk X x "extend" p' apos pos [e]) (hs : starEach (e :: []) X.env = (false, eval e X.env) :: starEach [] X.env) (hplain : (backTo pos (starEach [] X.env)).any (·.1) = false) :
    PE X (.Call (.Attribute (.Name x p') "extend" apos) [e] [] pos) (tS C (sExtend j m)) := by
  refine peOf (pe_bm PySem.F.plainAttrs_list PySem.F.slot_list_extend PySem.F.type_list_extend mt_extend (pe_var hN hv hd hcd) (pa_cons he pa_nil hs) mo.base mo.few mo.line hs hplain) fun sg H Q w => ?_
  obtain ⟨ow, env, rr, env', e', R, k⟩ := w
  unfold sExtend at e'
  split at e'
  rotate_left
  · cases e'
  rename_i hown
  obtain ⟨⟨r, e1⟩, h1, e'⟩ := Option.bind_eq_some_iff.mp e'
  obtain ⟨d, h2, e'⟩ := Option.bind_eq_some_iff.mp e'
  obtain ⟨e3, h3, e'⟩ := Option.bind_eq_some_iff.mp e'
  cases e'
  obtain ⟨a0, xs0, ha0, hx0⟩ := ownedL_ref (p := ⟨ow, sg, H, env⟩) R hown
  refine ⟨.ref a0, ha0, .inl ⟨rfl, xs0, SqL.of hx0⟩, ow, env, r, e1, h1, R, fun v H1 ow1 R1 T1 D1 => ?_⟩
  have D2 := D1.b R1 h2
  obtain ⟨t, t', a, sl, g1, g2, g3, g4, rfl, g6⟩ := upS_inv (p := ⟨ow1, sg, H1, e1⟩) R1 h3
  have g2 : sg[j]? = some (some (.ref a)) := g2
  have ha0 : sg[j]? = some (some (.ref a0)) := ha0
  rw [ha0] at g2; cases g2
  unfold exD at g4
  split at g4
  · split at g4
    · split at g4
      · rename_i hz
        cases g4
        obtain ⟨xs, hx, dx⟩ := g3
        obtain ⟨b, zs, rfl, hy, dy⟩ := bLst D2
        refine ⟨a0, b, xs, zs, rfl, rfl, hx, hy, by rw [← dx.length, ← dy.length]; exact hz, ?_⟩
        have inA : Av C ow1 a0 := .inr ⟨j, g1⟩
        obtain ⟨R3, T3⟩ := mutate (p := ⟨ow1, sg, H1, e1⟩) (sl := sl) (o := .lst (xs ++ zs)) R1 g1 g6 fun H' hk ho => ⟨_, ho, Dens.to (fun b u e n => hk b u (fun z => n (z ▸ inA)) e) (fun _ _ n => n) _ _ (dx.append dy)⟩
        exact k .non _ ow1 R3 (T1.trans T3) rdNon
      · cases g4
    · cases g4
  · cases g4
theorem Dens.dropLast {K : Frag} {H : Hp} {A : Addr → Prop} {l : List D} {xs : List V} (h : Dens K H A l xs) : Dens K H A l.dropLast xs.dropLast := by
  rw [List.dropLast_eq_take, List.dropLast_eq_take, h.length]
  exact h.take _
def sPop (j : Nat) : Sem := fun env => match env[j]? with
  | some (.ow (.lst l)) => (l[l.length - 1]?).bind fun d => some (.val d, env.set j (.ow (.lst l.dropLast)))
  | _ => none
theorem s_pop {apos : Pos} {j : Nat} {x : Str} (hN : X.N[j]? = some x) (hv : Vis X.env.scope x) (hd : (x == ("__debug__" : Str)) = false) (hcd : (x == ("__classdict__" : Str)) = false)
    (mo : MtOk X x "pop" p' apos pos []) : PE X (.Call (.Attribute (.Name x p') "pop" apos) [] [] pos) (tS C (sPop j)) := by
  refine peOf (pe_bm0 PySem.F.plainAttrs_list PySem.F.slot_list_pop PySem.F.type_list_pop mt_pop (pe_var hN hv hd hcd) mo.base mo.line) fun sg H Q w => ?_
  obtain ⟨ow, env, rr, env', e', R, k⟩ := w
  unfold sPop at e'
  have s := R.slot j
  have s : SlOk C ⟨ow, sg, H, env⟩ j env[j]? := s
  split at e'
  · rename_i l hq
    obtain ⟨d, h1, e'⟩ := Option.bind_eq_some_iff.mp e'
    cases e'
    rw [hq] at s
    obtain ⟨a, g1, g2, ⟨xs, hx, dx⟩, _⟩ := s
    have hx : H a = some (.lst xs) := hx
    rw [dx.length] at h1
    obtain ⟨v, hv, dv⟩ := dx.get h1
    refine ⟨.ref a, g2, .inl ⟨rfl, xs, SqL.of hx⟩, a, xs, v, rfl, rfl, hx, hv, ?_⟩
    have inA : Av C ow a := .inr ⟨j, g1⟩
    obtain ⟨R3, T3⟩ := mutate (p := ⟨ow, sg, H, env⟩) (sl := .ow (.lst l.dropLast)) (o := .lst xs.dropLast) R g1 (.inl ⟨hq, rfl⟩) fun H' hk ho => ⟨_, ho, Dens.to (fun b u e n => hk b u (fun z => n (z ▸ inA)) e) (fun _ _ n => n) _ _ dx.dropLast⟩
    exact k v _ ow R3 T3 (Den.go (C := C) T3 dv)
  · cases e'
end

/-! ### a def from its body -/
def startE (n : Nat) (ds : List D) : Env := ds.map Sl.sh ++ List.replicate (n - ds.length) Sl.no
def runF (n : Nat) (b : SemS) : FnS := fun ds => match b (startE n ds) with
  | some (.rt d _) => some d
  | some (.nx _) => some .non
  | _ => none
def ioOf (e : Env) : Option D := match (e[0]? : Option Sl) with
  | some (.io d) => some d
  | _ => none
theorem ioOf_inv {e : Env} {d : D} (h : ioOf e = some d) : e[0]? = some (.io d) := by
  unfold ioOf at h
  split at h
  · rename_i h2; cases h; exact h2
  · cases h
def runI (n : Nat) (b : SemS) : FnI := fun d0 ds => match b (.io d0 :: startE (n - 1) ds) with
  | some (.rt d e) => (ioOf e).bind fun d1 => some (d, d1)
  | some (.nx e) => (ioOf e).bind fun d1 => some (.non, d1)
  | _ => none
theorem getElem?_map_append_replicate {α β : Type} (f : α → β) (b : β) (l : List α) (n i : Nat) : (l.map f ++ List.replicate n b)[i]? = match l[i]? with
    | some a => some (f a)
    | none => if i < l.length + n then some b else none := by
  by_cases h : i < l.length
  · rw [List.getElem?_append_left (by simpa using h), List.getElem?_map, List.getElem?_eq_getElem h]; rfl
  · rw [List.getElem?_append_right (by simpa using h), List.getElem?_replicate, List.getElem?_eq_none (by omega), List.length_map]
    by_cases h2 : i < l.length + n
    · rw [if_pos (by omega), if_pos h2]
    · rw [if_neg (by omega), if_neg h2]
theorem startE_get {n : Nat} {ds : List D} {i : Nat} : (startE n ds)[i]? = match ds[i]? with
    | some d => some (.sh d)
    | none => if i < ds.length + (n - ds.length) then some .no else none := by
  unfold startE; rw [getElem?_map_append_replicate]; cases ds[i]? <;> rfl
theorem start_get {N : List Str} {vs : List V} {i : Nat} : (L2.start N vs)[i]? = match vs[i]? with
    | some v => some (some v)
    | none => if i < vs.length + (N.length - vs.length) then some none else none := by
  unfold L2.start; rw [getElem?_map_append_replicate]; cases vs[i]? <;> rfl
section
variable {P : Program} {w : World} {K : Frag} {mg : Str → Option Value} {base : Heap}
theorem fn_s {x qual : Str} {st : Stmt} {f : Addr} {fd : FuncData} {N ps : List Str} {k n : Nat} {b : SemS} (F : Fun K x qual st f fd) (S : FnScope N ps (defScope st)) (hn : ps.length = n)
    (body : ∀ (cdv : Value) (A : Around) (outer : List PySem.Env) (s : Shared) (H : Hp) (E : XK), Room k (A.deeper (envOfC qual (defScope st) s.heap.objs.size f cdv)) → ∀ C : Cf, C.K = K → PSs (cxOf CX0 P w K mg base N qual (defScope st) f cdv A outer s H E).nox (defBody st) (tSt C b)) :
    FnOk P w K mg base CX0 (k + 1) f fd ps (spS K n (runF N.length b)) := by
  refine F.ok S (fun vs H Q E h => ?_) (fun cdv A outer s H vs Q E hr h => ?_)
  · obtain ⟨_, _, _, h, _⟩ := h; rw [h, hn]
  · obtain ⟨A0, ds, d, hl, dn, a0, e, q⟩ := h
    refine ⟨_, body cdv A outer s H E hr ⟨K, A0, H, none⟩ rfl, ?_⟩
    have hpl : ps.length ≤ N.length := by have := congrArg List.length S.pre; rw [List.length_take] at this; omega
    have hd := dn.length
    have av : ∀ a, Av ⟨K, A0, H, none⟩ (fun _ => none) a → A0 a := fun a z => z.elim id fun ⟨_, z⟩ => nomatch z
    have R : Rel ⟨K, A0, H, none⟩ ⟨fun _ => none, L2.start N vs, H, startE N.length ds⟩ := by
      refine ⟨fun i => ?_, fun i j a z => (nomatch z), fun i a z => (nomatch z), fun i a z => (nomatch z), fun a o e _ => e, a0, ?_, fun a z => (nomatch z)⟩
      · show SlOk _ _ i (startE N.length ds)[i]?
        rw [startE_get]
        cases hi : ds[i]? with
        | none => dsimp only; split <;> rfl
        | some d' =>
          obtain ⟨v, hv, dv⟩ := dn.get hi
          refine ⟨rfl, v, ?_, dv.less av⟩
          show (L2.start N vs)[i]? = _
          rw [start_get, hv]
      · show (startE N.length ds).length ≤ (L2.start N vs).length
        unfold startE L2.start
        simp only [List.length_append, List.length_map, List.length_replicate]
        omega
    unfold runF at e
    refine ⟨fun _ => none, startE N.length ds, ?_⟩
    cases hb : b (startE N.length ds) with
    | none => rw [hb] at e; cases e
    | some o =>
      rw [hb] at e
      refine ⟨o, rfl, R, ?_⟩
      have fin : ∀ (v : V) (p : Ps), Tr ⟨fun _ => none, L2.start N vs, H, startE N.length ds⟩ p → Den K p.H (Av ⟨K, A0, H, none⟩ p.ow) d v → Q v p.H := fun v p T D1 => q v p.H (fun a o e => T.same a o e fun i z => nomatch z) (D1.less fun a z => .inl z)
      cases o with
      | nx e1 => cases e; exact fun sg' H' ow' R' T' => fin .non _ T' dNon
      | rt d' e1 => cases e; exact fun v sg' H' ow' R' T' D' => fin v _ T' D'
      | bk e1 => cases e
      | ct e1 => cases e
theorem fn_i {x qual : Str} {st : Stmt} {f : Addr} {fd : FuncData} {N ps : List Str} {k n : Nat} {b : SemS} (F : Fun K x qual st f fd) (S : FnScope N ps (defScope st)) (hn : ps.length = n)
    (body : ∀ (cdv : Value) (A : Around) (outer : List PySem.Env) (s : Shared) (H : Hp) (E : XK), Room k (A.deeper (envOfC qual (defScope st) s.heap.objs.size f cdv)) → ∀ C : Cf, C.K = K → PSs (cxOf CX0 P w K mg base N qual (defScope st) f cdv A outer s H E).nox (defBody st) (tSt C b)) :
    FnOk P w K mg base CX0 (k + 1) f fd ps (spI K n (runI N.length b)) := by
  refine F.ok S (fun vs H Q E h => ?_) (fun cdv A outer s H vs Q E hr h => ?_)
  · obtain ⟨_, _, _, _, _, _, _, _, h, _⟩ := h; rw [h, hn]
  · obtain ⟨A1, r, ws, d0, ds, d, d1, rfl, hl, hA, rt0, dn, a0, e, q⟩ := h
    -- the caller avoids r; here it is owned
    refine ⟨_, body cdv A outer s H E hr ⟨K, fun a => A1 a ∧ a ≠ r, H, some r⟩ rfl, ?_⟩
    have hpl : ps.length ≤ N.length := by have := congrArg List.length S.pre; rw [List.length_take] at this; omega
    have hd := dn.length
    have av : ∀ a, Av ⟨K, fun a => A1 a ∧ a ≠ r, H, some r⟩ (fun i => if i = 0 then some r else none) a → A1 a := fun a z => by
      rcases z with z | ⟨i, z⟩
      · exact z.1
      · have z : (if i = 0 then some r else none) = some a := z
        split at z
        · cases z; exact hA
        · cases z
    have hl2 : ws.length + 1 = ps.length := by rw [hn, ← hl]; rfl
    have R : Rel ⟨K, fun a => A1 a ∧ a ≠ r, H, some r⟩ ⟨fun i => if i = 0 then some r else none, L2.start N (.ref r :: ws), H, .io d0 :: startE (N.length - 1) ds⟩ := by
      refine ⟨fun i => ?_, fun i j a z1 z2 => ?_, fun i a z => ?_, fun i a z w => ?_, fun a o e _ => e, fun a z => a0 a z.1, ?_, fun a z => by cases z; exact rt0.ne⟩
      · show SlOk _ _ i (Sl.io d0 :: startE (N.length - 1) ds)[i]?
        cases i with
        | zero => exact ⟨r, rfl, by show (L2.start N (.ref r :: ws))[0]? = _; rw [start_get]; rfl, rt0.to rfl (fun _ _ e _ => e) (fun b _ n z => n (av b z)), rfl, rfl⟩
        | succ i =>
          rw [List.getElem?_cons_succ, startE_get]
          cases hi : ds[i]? with
          | none => dsimp only; split <;> rfl
          | some d' =>
            obtain ⟨v, hv, dv⟩ := dn.get hi
            refine ⟨rfl, v, ?_, dv.less av⟩
            show (L2.start N (.ref r :: ws))[i + 1]? = _
            rw [start_get, List.getElem?_cons_succ, hv]
      · have z1 : (if i = 0 then some r else none) = some a := z1
        have z2 : (if j = 0 then some r else none) = some a := z2
        split at z1 <;> split at z2
        · omega
        · cases z2
        · cases z1
        · cases z1
      · have z : (if i = 0 then some r else none) = some a := z
        split at z
        · exact .inr z
        · cases z
      · have z : (if i = 0 then some r else none) = some a := z
        split at z
        · cases z; exact w.2 rfl
        · cases z
      · show (startE (N.length - 1) ds).length + 1 ≤ (L2.start N (.ref r :: ws)).length
        unfold startE L2.start
        simp only [List.length_append, List.length_map, List.length_replicate, List.length_cons]
        omega
    unfold runI at e
    refine ⟨fun i => if i = 0 then some r else none, .io d0 :: startE (N.length - 1) ds, ?_⟩
    have fin : ∀ (v : V) (p : Ps) (dd1 : D), Rel ⟨K, fun a => A1 a ∧ a ≠ r, H, some r⟩ p → Tr ⟨fun i => if i = 0 then some r else none, L2.start N (.ref r :: ws), H, .io d0 :: startE (N.length - 1) ds⟩ p → p.env[0]? = some (.io dd1) → dd1 = d1 → Den K p.H (Av ⟨K, fun a => A1 a ∧ a ≠ r, H, some r⟩ p.ow) d v → Q v p.H := by
      intro v p dd1 Rp T he1 ed D1
      subst ed
      have s := Rp.slot 0
      rw [he1] at s
      obtain ⟨b, g1, g2, g3, g4, _⟩ := s
      have hb : b = r := by cases g4; rfl
      subst hb
      have hall : ∀ a, A1 a → Av ⟨K, fun a => A1 a ∧ a ≠ b, H, some b⟩ p.ow a := fun a z => by
        by_cases e : a = b
        · exact .inr ⟨0, e ▸ g1⟩
        · exact .inl ⟨z, e⟩
      refine q v p.H (fun a o n e => T.same a o e fun i z => ?_) (g3.to rfl (fun _ _ e _ => e) fun a _ n z => n (hall a z)) (D1.less hall)
      have z : (if i = 0 then some b else none) = some a := z
      split at z
      · cases z; exact n rfl
      · cases z
    cases hb : b (.io d0 :: startE (N.length - 1) ds) with
    | none => rw [hb] at e; cases e
    | some o =>
      rw [hb] at e
      refine ⟨o, rfl, R, ?_⟩
      cases o with
      | nx e1 =>
        obtain ⟨dd, h1, e⟩ := Option.bind_eq_some_iff.mp e
        cases e
        exact fun sg' H' ow' R' T' => fin .non _ _ R' T' (ioOf_inv h1) rfl dNon
      | rt d' e1 =>
        obtain ⟨dd, h1, e⟩ := Option.bind_eq_some_iff.mp e
        cases e
        exact fun v sg' H' ow' R' T' D' => fin v _ _ R' T' (ioOf_inv h1) rfl D'
      | bk e1 => cases e
      | ct e1 => cases e
end
end NL

/-! NL9: from the text to the evaluator: what a def's body does, by computation, and that it is so -/
namespace NL
open PySem PySem.Spec L2
open PyProof.Rows hiding St

/-! ### a call of a def that changes its first argument -/
section
variable {C : Cf} {p q : Ps}
theorem mutateG (R : Rel C p) {i : Nat} {a : Addr} {d d' : D} {sl : Sl} {H' : Hp} (ha : p.ow i = some a) (hsl : (p.env[i]? = some (.ow d) ∧ sl = .ow d') ∨ (p.env[i]? = some (.io d) ∧ sl = .io d'))
    (keep : ∀ b u, b ≠ a → p.H b = some u → H' b = some u) (rt : Root C.K H' (Av C p.ow) d' a) :
    Rel C { p with H := H', env := p.env.set i sl } ∧ Tr p { p with H := H', env := p.env.set i sl } := by
  have lt : i < p.env.length := by
    rcases hsl with ⟨e, _⟩ | ⟨e, _⟩ <;> exact (List.getElem?_eq_some_iff.mp e).1
  have h1 : ∀ b u, p.H b = some u → ¬ Av C p.ow b → H' b = some u := fun b u e n => keep b u (fun z => n (.inr ⟨i, z ▸ ha⟩)) e
  have trk : ∀ b, p.H b ≠ none → H' b ≠ none := fun b n => by
    by_cases hb : b = a
    · rw [hb]; exact rt.ne
    · cases q : p.H b with
      | none => exact absurd q n
      | some u => rw [keep b u hb q]; exact fun z => nomatch z
  have rest : ∀ b, p.H b ≠ none → b ≠ a → H' b = p.H b := fun b n hb => by
    cases q : p.H b with
    | none => exact absurd q n
    | some u => exact keep b u hb q
  refine ⟨⟨fun j => ?_, R.inj, R.own0, R.ownA, fun b u e n => ?_, fun b z => trk b (R.a0 b z), ?_, fun b e => trk b (R.ioH b e)⟩, ⟨fun b u e n => keep b u (fun z => n i (z ▸ ha)) e, fun j b z => .inl ⟨j, z⟩, trk, fun j d2 z => ⟨?_, rfl, rfl⟩, fun d2 z => ⟨?_, rfl, rfl⟩⟩⟩
  · show SlOk C _ j (p.env.set i sl)[j]?
    by_cases hj : j = i
    · subst hj
      rw [List.getElem?_set_self lt]
      have s := R.slot j
      rcases hsl with ⟨e, rfl⟩ | ⟨e, rfl⟩
      · rw [e] at s
        obtain ⟨b, g1, g2, _, g4⟩ := s
        have g1 : p.ow j = some b := g1
        rw [ha] at g1; cases g1
        exact ⟨a, ha, g2, rt, g4⟩
      · rw [e] at s
        obtain ⟨b, g1, g2, _, g4⟩ := s
        have g1 : p.ow j = some b := g1
        rw [ha] at g1; cases g1
        exact ⟨a, ha, g2, rt, g4⟩
    · rw [List.getElem?_set_ne (Ne.symm hj)]
      have nj : ∀ b, p.ow j = some b → H' b = p.H b := fun b e => rest b (R.rootNe e) fun z => hj (R.inj j i a (z ▸ e) ha)
      have s := R.slot j
      cases q : p.env[j]? with
      | none => rw [q] at s; exact s
      | some s0 =>
        rw [q] at s
        cases s0 with
        | no => exact s
        | sh d2 => obtain ⟨g1, v, g2, g3⟩ := s; exact ⟨g1, v, g2, Den.to h1 (fun _ _ n => n) _ _ g3⟩
        | ow d2 => obtain ⟨b, g1, g2, g3, g4⟩ := s; exact ⟨b, g1, g2, g3.to (nj b g1) h1 fun _ _ n => n, g4⟩
        | lk d2 => obtain ⟨b, g1, g2, g3, g4⟩ := s; exact ⟨b, g1, g2, g3.to (nj b g1) h1 fun _ _ n => n, g4⟩
        | io d2 => obtain ⟨b, g1, g2, g3, g4⟩ := s; exact ⟨b, g1, g2, g3.to (nj b g1) h1 fun _ _ n => n, g4⟩
  · refine keep b u (fun z => ?_) (R.keep b u e n)
    subst z
    rcases R.own0 i b ha with w | w
    · rw [w] at e; cases e
    · exact n w
  · show (p.env.set i _).length ≤ _
    rw [List.length_set]; exact R.len
  · have hj : j ≠ i := by
      rintro rfl
      have z : p.env[j]? = some (.lk d2) := z
      rcases hsl with ⟨e, _⟩ | ⟨e, _⟩ <;> (rw [e] at z; cases z)
    show (p.env.set i sl)[j]? = _
    rw [List.getElem?_set_ne (Ne.symm hj)]; exact z
  · by_cases hj : 0 = i
    · subst hj
      have z : p.env[0]? = some (.io d2) := z
      rcases hsl with ⟨e, _⟩ | ⟨e, rfl⟩
      · rw [e] at z; cases z
      · exact ⟨d', by show (p.env.set 0 (.io d'))[0]? = _; rw [List.getElem?_set_self lt]⟩
    · refine ⟨d2, ?_⟩
      show (p.env.set i sl)[0]? = _
      rw [List.getElem?_set_ne (Ne.symm hj)]; exact z
end
def sCallI (S : FnI) (j : Nat) (ms : SemR) : Sem := fun env => if owned env j then (ms env).bind fun x => (forces x.1 x.2).bind fun y => match (y.2[j]? : Option Sl) with
    | some (.ow t) => (S t y.1).bind fun r => some (.val r.1, y.2.set j (.ow r.2))
    | some (.io t) => (S t y.1).bind fun r => some (.val r.1, y.2.set j (.io r.2))
    | _ => none
  else none
section
variable {X : Cx} {C : Cf} {e a b : Expr} {es : List Expr} {pos p' : Pos} {m m1 m2 : Sem} {ms : SemR}
theorem RDens.length {p : Ps} : ∀ {rs : List Rv} {vs : List V}, RDens C p rs vs → vs.length = rs.length
  | [], vs, h => by rw [show vs = [] from h]; rfl
  | r :: rs, vs, h => by obtain ⟨x, t, rfl, _, h2⟩ := h; rw [List.length_cons, List.length_cons, RDens.length h2]
theorem s_callI {x y : Str} {p : Pos} {k n j : Nat} {f : Addr} {fd : FuncData} {ps : List Str} {S : FnI} (hK : C.K = X.K) (F : FnOk X.prog X.w X.K X.mg X.base CX0 k f fd ps (spI X.K n S)) (hr : Room k X.A) (hg : Gl X x) (hm : X.mg x = some (.ref f))
    (hk : PySem.W.keepIn X.K (.ref f) = true) (hb : Binds X.K fd ps []) (hN : X.N[j]? = some y) (hv : Vis X.env.scope y) (hdy : (y == ("__debug__" : Str)) = false) (hcd : (y == ("__classdict__" : Str)) = false)
    (ha : PA X es (tR C ms)) (hdb : (x == ("__debug__" : Str)) = false)
    (he : starEach (.Name y p' :: es) X.env = (false, eval (.Name y p') X.env) :: starEach es X.env) (hpl : (backTo pos (starEach es X.env)).any (·.1) = false)
    (hlen : ∀ env rs env', ms env = some (rs, env') → rs.length + 1 = n) : PE X (.Call (.Name x p) (.Name y p' :: es) [] pos) (tS C (sCallI S j ms)) := by
  refine peOf (pe_call F hr hg hm hk hb .nil pass0 (pa_cons (pe_var hN hv hdy hcd) ha he) hdb he hpl (E := E0)) fun sg H Q h => ?_
  obtain ⟨ow, env, rr, env', e, R, k⟩ := h
  unfold sCallI at e
  split at e
  rotate_left
  · cases e
  rename_i hown
  obtain ⟨⟨rs, e1⟩, h1, e⟩ := Option.bind_eq_some_iff.mp e
  obtain ⟨⟨ds, e2⟩, h3, e⟩ := Option.bind_eq_some_iff.mp e
  obtain ⟨a0, _, ha0, _, _⟩ := owned_ref (p := ⟨ow, sg, H, env⟩) R hown
  have ha0 : sg[j]? = some (some (.ref a0)) := ha0
  refine ⟨.ref a0, ha0, ow, env, rs, e1, h1, R, fun vs H1 ow1 R1 T1 D1 => ?_⟩
  obtain ⟨ow2, R2, T2, D2⟩ := forces_ok R1 D1 h3
  rw [List.append_nil]
  have hl : (V.ref a0 :: vs).length = n := by rw [List.length_cons, D1.length]; exact hlen _ _ _ h1
  have s := R2.slot j
  have s : SlOk C ⟨ow2, sg, H1, e2⟩ j e2[j]? := s
  have fin : ∀ (t d d1 : D) (sl sl' : Sl) (g1 : ow2 j = some a0) (rt : Root C.K H1 (Av C ow2) t a0) (hs : S t ds = some (d, d1)) (hsl : (e2[j]? = some (.ow t) ∧ sl' = .ow d1) ∨ (e2[j]? = some (.io t) ∧ sl' = .io d1))
      (ee : rr = .val d ∧ env' = e2.set j sl'), spI X.K n S (V.ref a0 :: vs) H1 Q E0 := by
    intro t d d1 sl sl' g1 rt hs hsl ee
    obtain ⟨rfl, rfl⟩ := ee
    refine ⟨Av C ow2, a0, vs, t, ds, d, d1, rfl, hl, .inr ⟨j, g1⟩, hK ▸ rt, hK ▸ D2, fun a za zn => R2.fresh zn za, hs, fun v H' keep rt' dv => ?_⟩
    obtain ⟨R3, T3⟩ := mutateG (p := ⟨ow2, sg, H1, e2⟩) R2 g1 hsl keep (show Root C.K H' (Av C ow2) d1 a0 from hK ▸ rt')
    exact k v H' ow2 R3 (T1.trans (T2.trans T3)) (show Den C.K H' (Av C ow2) d v from hK ▸ dv)
  split at e
  · rename_i t hq
    obtain ⟨⟨d, d1⟩, h5, e⟩ := Option.bind_eq_some_iff.mp e
    have hq : e2[j]? = some (.ow t) := hq
    rw [hq] at s
    obtain ⟨a, g1, g2, g3, _⟩ := s
    have g2 : sg[j]? = some (some (.ref a)) := g2
    rw [ha0] at g2; cases g2
    cases e
    exact fin t d d1 (.ow t) (.ow d1) g1 g3 h5 (.inl ⟨hq, rfl⟩) ⟨rfl, rfl⟩
  · rename_i t hq
    obtain ⟨⟨d, d1⟩, h5, e⟩ := Option.bind_eq_some_iff.mp e
    have hq : e2[j]? = some (.io t) := hq
    rw [hq] at s
    obtain ⟨a, g1, g2, g3, _⟩ := s
    have g2 : sg[j]? = some (some (.ref a)) := g2
    rw [ha0] at g2; cases g2
    cases e
    exact fin t d d1 (.io t) (.io d1) g1 g3 h5 (.inr ⟨hq, rfl⟩) ⟨rfl, rfl⟩
  · cases e
/-- not, as a value -/
def sNotV (m : Sem) : Sem := fun env => (m env).bind fun x => (deref x.2 x.1).bind fun d => (truth d).bind fun b => some (.val (.bl (!b)), x.2)
theorem s_notV (hK : C.K = X.K) (ha : PE X a (tS C m)) : PE X (.UnaryOp .Not a pos) (tS C (sNotV m)) := by
  refine peOf (pe_notT ha) fun sg H Q h => ?_
  obtain ⟨ow, env, b, env', e, R, k⟩ := h
  unfold sNotV at e
  obtain ⟨⟨r1, e1⟩, h1, e⟩ := Option.bind_eq_some_iff.mp e
  obtain ⟨d, h3, e⟩ := Option.bind_eq_some_iff.mp e
  obtain ⟨b', h5, e⟩ := Option.bind_eq_some_iff.mp e
  cases e
  refine ⟨ow, env, r1, _, h1, R, fun v H1 ow1 R1 T1 D1 => ⟨_, ?_, k _ H1 ow1 R1 T1 (by show Den _ _ _ _ _; rw [Den])⟩⟩
  have z := truth_ok (D1.b R1 h3) h5
  rw [hK] at z
  exact z
/-- a module's constant; a type's name -/
theorem s_gint {x : Str} {i : Int} (hg : Gl X x) (hm : ∃ t, X.mg x = some (.int i t)) (hd : (x == ("__debug__" : Str)) = false) : PE X (.Name x pos) (tS C (sC (.int i))) := by
  obtain ⟨t, hm⟩ := hm
  exact s_c (pe_glob (v := .int i) hg hm ⟨t, rfl⟩ hd) fun _ _ _ => by rw [Den]
theorem s_gstr {x z : Str} (hg : Gl X x) (hm : ∃ t, X.mg x = some (.str z t)) (hd : (x == ("__debug__" : Str)) = false) : PE X (.Name x pos) (tS C (sC (.str z))) := by
  obtain ⟨t, hm⟩ := hm
  exact s_c (pe_glob (v := .str z) hg hm ⟨t, rfl⟩ hd) fun _ _ _ => by rw [Den]
theorem s_gty {x : Str} {n : TyN} (hg : Gl X x) (hm : X.mg x = none) (hv : bootBuiltins x = some (.type n.name)) (hn : x ≠ "__name__") (hd : (x == ("__debug__" : Str)) = false) : PE X (.Name x pos) (tS C (sC (.ty n))) :=
  s_c (pe_bltn (v := .ty n.name) hg hm hv rfl hn hd) fun _ _ _ => by rw [Den]
/-- a, b = e1, e2 of plain local names -/
theorem st_par {vs : List Nat} {i j : Nat} {x y : Str} {px py pt spos : Pos} {kt k2 : Nat} {pt2 : Pos} (hc : X.calm = true) (hN : X.N.Nodup) (hi : X.N[i]? = some x) (hj : X.N[j]? = some y) (hij : i ≠ j)
    (hx : X.env.scope.names.lookup x = some .local) (hy : X.env.scope.names.lookup y = some .local) (ha : PA X [a, b] (tR C ms))
    (hw : swappedStores [.Tuple [.Name x px, .Name y py] kt pt] (.Tuple [a, b] k2 pt2) X.env = pure (some [x, y]))
    (hs : swapsWithSole [.Tuple [.Name x px, .Name y py] kt pt] (.Tuple [a, b] k2 pt2) spos.line X.env = pure false) :
    PS X (.Assign [.Tuple [.Name x px, .Name y py] kt pt] (.Tuple [a, b] k2 pt2) spos) (tSt C (sAsg (sTup ms) (gTup 2 (gsCons (gName i) (gsCons (gName j) gsNil))))) := by
  refine psOf (ps_par hc hN hi hj hij hx hy ha hw hs) fun D sg H w => ?_
  obtain ⟨ow, env, o, e, R, k⟩ := w
  unfold sAsg sTup sForces at e
  obtain ⟨⟨r, e1⟩, h1, e⟩ := Option.bind_eq_some_iff.mp e
  obtain ⟨⟨dd, e0⟩, h0, h1'⟩ := Option.bind_eq_some_iff.mp h1
  obtain ⟨⟨rs, e2⟩, g1, h0⟩ := Option.bind_eq_some_iff.mp h0
  obtain ⟨⟨ds, e3⟩, g2, h0⟩ := Option.bind_eq_some_iff.mp h0
  obtain ⟨d', g3, h0⟩ := Option.bind_eq_some_iff.mp h0
  cases h0
  cases h1'
  obtain ⟨⟨d2, e4⟩, g4, e⟩ := Option.bind_eq_some_iff.mp e
  cases g4
  obtain ⟨e5, g5, e⟩ := Option.bind_eq_some_iff.mp e
  cases e
  dsimp only at g3 g5
  split at g3
  rotate_left
  · cases g3
  cases g3
  refine ⟨ow, env, rs, e2, g1, R, fun vs H1 ow1 R1 T1 D1 => ?_⟩
  obtain ⟨ow2, R2, T2, D2⟩ := forces_ok R1 D1 g2
  unfold gTup at g5
  dsimp only at g5
  split at g5
  rotate_left
  · cases g5
  match ds, D2, g5 with
  | [da, db], D2, g5 =>
    rw [Dens] at D2
    obtain ⟨v, t, rfl, dv, D2⟩ := D2
    rw [Dens] at D2
    obtain ⟨u, t2, rfl, du, D2⟩ := D2
    rw [Dens] at D2
    subst D2
    obtain ⟨e6, g6, g5⟩ := Option.bind_eq_some_iff.mp g5
    obtain ⟨e7, g7, g5⟩ := Option.bind_eq_some_iff.mp g5
    cases g5
    obtain ⟨s1, rfl⟩ := storeS_inv g6
    obtain ⟨s2, rfl⟩ := storeS_inv g7
    obtain ⟨R3, T3⟩ := store_sh (p := ⟨ow2, sg, H1, e3⟩) R2 s1 dv
    obtain ⟨R4, T4⟩ := store_sh R3 s2 (Den.go (C := C) T3 du)
    exact ⟨v, u, rfl, k _ _ _ R4 (T1.trans (T2.trans (T3.trans T4)))⟩
end
end NL

/-! NLG: defs that hand back a new list -/
namespace NL
open PySem PySem.Spec L2
open PyProof.Rows hiding St

def spR (K : Frag) (n : Nat) (S : FnS) : Sp := fun vs H Q _ => ∃ (A : Addr → Prop) (ds : List D) (d : D), vs.length = n ∧ Dens K H A ds vs ∧ (∀ a, A a → H a ≠ none) ∧ S ds = some d ∧
  ∀ r H', H r = none → Same H H' → Root K H' (fun b => A b ∨ b = r) d r → Q (.ref r) H'
def fCall (S : FnS) (ms : SemR) : SemF := fun env => (ms env).bind fun x => (forces x.1 x.2).bind fun y => (S y.1).bind fun d => some (d, y.2)
theorem Rel.plusAt {C : Cf} {p : Ps} (R : Rel C p) {r : Addr} {H' : Hp} (hr : p.H r = none) (hr' : H' r ≠ none) (sm : Same p.H H') : Rel (C.plus r) { p with H := H' } := by
  have h2 : ∀ b, p.H b ≠ none → ¬ Av C p.ow b → ¬ Av (C.plus r) p.ow b := fun b e n z => by
    rcases z with (z | z) | z
    · exact n (.inl z)
    · exact e (z ▸ hr)
    · exact n (.inr z)
  have h1 : ∀ b o, p.H b = some o → ¬ Av C p.ow b → H' b = some o := fun b o e _ => sm b o e
  have eqr : ∀ d b, Root C.K p.H (Av C p.ow) d b → Root C.K H' (Av (C.plus r) p.ow) d b := fun d b w => by
    refine w.to ?_ h1 h2
    cases q : p.H b with
    | none => exact absurd q w.ne
    | some o => exact sm b o q
  refine ⟨fun i => ?_, R.inj, R.own0, fun i a z w => ?_, fun a o e n => sm a o (R.keep a o e n), fun a z => ?_, R.len, fun a z => ?_⟩
  · have s := R.slot i
    show SlOk (C.plus r) _ i p.env[i]?
    cases q : p.env[i]? with
    | none => rw [q] at s; exact s
    | some sl =>
      rw [q] at s
      cases sl with
      | no => exact s
      | sh d => obtain ⟨s1, v, s2, s3⟩ := s; exact ⟨s1, v, s2, Den.to h1 h2 d v s3⟩
      | ow d => obtain ⟨b, s1, s2, s3, s4⟩ := s; exact ⟨b, s1, s2, eqr _ _ s3, s4⟩
      | lk d => obtain ⟨b, s1, s2, s3, s4⟩ := s; exact ⟨b, s1, s2, eqr _ _ s3, s4⟩
      | io d => obtain ⟨b, s1, s2, s3, s4⟩ := s; exact ⟨b, s1, s2, eqr _ _ s3, s4⟩
  · rcases w with w | w
    · exact R.ownA i a z w
    · exact R.fresh (w ▸ hr) (.inr ⟨i, z⟩)
  · rcases z with z | z
    · intro w
      have := R.a0 a z
      cases q : p.H a with
      | none => exact this q
      | some o => have w : H' a = none := w; rw [sm a o q] at w; cases w
    · exact z ▸ hr'
  · intro w
    cases q : p.H a with
    | none => exact R.ioH a z q
    | some o => have w : H' a = none := w; rw [sm a o q] at w; cases w
section
variable {X : Cx} {C : Cf} {e a b : Expr} {es : List Expr} {pos p' : Pos} {m m1 m2 : Sem} {ms : SemR}
theorem f_call {x : Str} {p : Pos} {k n : Nat} {f : Addr} {fd : FuncData} {ps : List Str} {S : FnS} (hK : C.K = X.K) (F : FnOk X.prog X.w X.K X.mg X.base CX0 k f fd ps (spR X.K n S)) (hr : Room k X.A) (hg : Gl X x) (hm : X.mg x = some (.ref f))
    (hk : PySem.W.keepIn X.K (.ref f) = true) (hb : Binds X.K fd ps []) (ha : PA X (e :: es) (tR C ms)) (hn : (e :: es).length = n) (hdb : (x == ("__debug__" : Str)) = false)
    (he : starEach (e :: es) X.env = (false, eval e X.env) :: starEach es X.env) (hpl : (backTo pos (starEach es X.env)).any (·.1) = false)
    (hlen : ∀ env rs env', ms env = some (rs, env') → rs.length = n) : PE X (.Call (.Name x p) (e :: es) [] pos) (tF C (fCall S ms)) := by
  refine peOf (pe_call F hr hg hm hk hb .nil pass0 ha hdb he hpl (E := E0)) fun sg H Q h => ?_
  obtain ⟨ow, env, d0, env', e, R, k⟩ := h
  unfold fCall at e
  obtain ⟨⟨rs, e1⟩, h1, e⟩ := Option.bind_eq_some_iff.mp e
  obtain ⟨⟨ds, e2⟩, h3, e⟩ := Option.bind_eq_some_iff.mp e
  obtain ⟨d, h5, e⟩ := Option.bind_eq_some_iff.mp e
  cases e
  refine ⟨ow, env, rs, e1, h1, R, fun vs H1 ow1 R1 T1 D1 => ?_⟩
  obtain ⟨ow2, R2, T2, D2⟩ := forces_ok R1 D1 h3
  rw [List.append_nil]
  refine ⟨Av C ow2, ds, d0, D1.length.trans (hlen _ _ _ h1), hK ▸ D2, fun a za zn => R2.fresh zn za, h5, fun r H' hr sm rt => ?_⟩
  have rt2 : Root C.K H' (Av (C.plus r) ow2) d0 r := hK ▸ rt.to rfl (fun _ _ e _ => e) fun b _ n z => n (by
    rcases z with (z | z) | z
    · exact .inl (.inl z)
    · exact .inr z
    · exact .inl (.inr z))
  obtain ⟨R3, T3⟩ := R2.grow sm
  have hrH : H r = none := by
    cases z : H r with
    | none => rfl
    | some o => exact absurd hr ((T1.trans T2).trk r (by show H r ≠ none; rw [z]; exact fun w => nomatch w))
  exact k r H' ow2 hrH (R2.plusAt hr rt2.ne sm) (T1.trans (T2.trans T3)) rt2
end
def runR (n : Nat) (m : SemF) : FnS := fun ds => (m (startE n ds)).bind fun x => some x.1
section
variable {P : Program} {w : World} {K : Frag} {mg : Str → Option Value} {base : Heap}
theorem fn_r {x qual : Str} {st : Stmt} {f : Addr} {fd : FuncData} {N ps : List Str} {k n : Nat} {m : SemF} {e : Expr} {pos : Pos} (F : Fun K x qual st f fd) (S : FnScope N ps (defScope st)) (hn : ps.length = n) (hb : defBody st = [.Return (some e) pos])
    (body : ∀ (cdv : Value) (A : Around) (outer : List PySem.Env) (s : Shared) (H : Hp) (E : XK), Room k (A.deeper (envOfC qual (defScope st) s.heap.objs.size f cdv)) → ∀ C : Cf, C.K = K → PE (cxOf CX0 P w K mg base N qual (defScope st) f cdv A outer s H E).nox e (tF C m)) :
    FnOk P w K mg base CX0 (k + 1) f fd ps (spR K n (runR N.length m)) := by
  refine F.ok S (fun vs H Q E h => ?_) (fun cdv A outer s H vs Q E hr h => ?_)
  · obtain ⟨_, _, _, h, _⟩ := h; rw [h, hn]
  · obtain ⟨A0, ds, d, hl, dn, a0, e0, q⟩ := h
    rw [hb]
    refine ⟨_, pss_one (ps_ret (body cdv A outer s H E hr ⟨K, A0, H, none⟩ rfl)), ?_⟩
    have hpl : ps.length ≤ N.length := by have := congrArg List.length S.pre; rw [List.length_take] at this; omega
    have hd := dn.length
    have av : ∀ a, Av ⟨K, A0, H, none⟩ (fun _ => none) a → A0 a := fun a z => z.elim id fun ⟨_, z⟩ => nomatch z
    have R : Rel ⟨K, A0, H, none⟩ ⟨fun _ => none, L2.start N vs, H, startE N.length ds⟩ := by
      refine ⟨fun i => ?_, fun i j a z => (nomatch z), fun i a z => (nomatch z), fun i a z => (nomatch z), fun a o e _ => e, a0, ?_, fun a z => (nomatch z)⟩
      · show SlOk _ _ i (startE N.length ds)[i]?
        rw [startE_get]
        cases hi : ds[i]? with
        | none => dsimp only; split <;> rfl
        | some d' =>
          obtain ⟨v, hv, dv⟩ := dn.get hi
          refine ⟨rfl, v, ?_, dv.less av⟩
          show (L2.start N vs)[i]? = _
          rw [start_get, hv]
      · show (startE N.length ds).length ≤ (L2.start N vs).length
        unfold startE L2.start
        simp only [List.length_append, List.length_map, List.length_replicate]
        omega
    unfold runR at e0
    obtain ⟨⟨d', e1⟩, h1, e0⟩ := Option.bind_eq_some_iff.mp e0
    cases e0
    refine ⟨fun _ => none, startE N.length ds, d', e1, h1, R, fun a H' ow' ha R' T' rt => ?_⟩
    exact q a H' ha (fun b o e => T'.same b o e fun i z => nomatch z) (rt.to rfl (fun _ _ e _ => e) fun b _ n z => n (.inl z))
end
end NL

/-! NLJ: a, b = e1, e2 of plain local names, where a part is a new list that the def goes on to change -/
namespace NL
open PySem PySem.Spec L2
open PyProof.Rows hiding St

section
variable {X : Cx} {C : Cf} {e a b : Expr} {pos : Pos} {m1 m2 : Sem} {f1 f2 : SemF}
def tFx (K : Frag) (m : SemF) : TE := fun sg H Q => ∃ C, C.K = K ∧ tF C m sg H Q
theorem pe_fx {K : Frag} {m : SemF} (h : ∀ C : Cf, C.K = K → PE X e (tF C m)) : PE X e (tFx K m) := ⟨fun pins s σ H Q I ⟨C, hC, w⟩ => (h C hC).run pins s σ H Q I w⟩
def sParFV (m1 : SemF) (i : Nat) (m2 : Sem) (j : Nat) : SemS := fun env => (m1 env).bind fun x => (m2 x.2).bind fun y => (force y.1 y.2).bind fun z => (storeS (.ow x.1) i z.2).bind fun e1 => (storeS (.sh z.1) j e1).bind fun e2 => some (.nx e2)
def sParVF (m1 : Sem) (i : Nat) (m2 : SemF) (j : Nat) : SemS := fun env => (m1 env).bind fun x => (m2 x.2).bind fun y => (force x.1 y.2).bind fun z => (storeS (.sh z.1) i z.2).bind fun e1 => (storeS (.ow y.1) j e1).bind fun e2 => some (.nx e2)
def sParFF (m1 : SemF) (i : Nat) (m2 : SemF) (j : Nat) : SemS := fun env => (m1 env).bind fun x => (m2 x.2).bind fun y => (storeS (.ow x.1) i y.2).bind fun e1 => (storeS (.ow y.1) j e1).bind fun e2 => some (.nx e2)
theorem Root.go {C : Cf} {p q : Ps} {d : D} {a : Addr} (T : Tr p q) (n : ∀ i, p.ow i ≠ some a) (rt : Root C.K p.H (Av C p.ow) d a) : Root C.K q.H (Av C q.ow) d a := by
  refine rt.to ?_ (Av.sub1 T) (Av.sub2 T)
  cases z : p.H a with
  | none => exact absurd z rt.ne
  | some o => exact T.same a o z n
theorem st_parFV {i j : Nat} {x y : Str} {px py pt spos : Pos} {kt k2 : Nat} {pt2 : Pos} (hK : C.K = X.K) (hc : X.calm = true) (hN : X.N.Nodup) (hi : X.N[i]? = some x) (hj : X.N[j]? = some y) (hij : i ≠ j)
    (hx : X.env.scope.names.lookup x = some .local) (hy : X.env.scope.names.lookup y = some .local) (ha : PE X a (tF C f1)) (hb : ∀ C' : Cf, C'.K = X.K → PE X b (tS C' m2)) (s1 : starEach [a, b] X.env = (false, eval a X.env) :: starEach [b] X.env) (s2 : starEach [b] X.env = (false, eval b X.env) :: starEach [] X.env)
    (hw : swappedStores [.Tuple [.Name x px, .Name y py] kt pt] (.Tuple [a, b] k2 pt2) X.env = pure (some [x, y]))
    (hs : swapsWithSole [.Tuple [.Name x px, .Name y py] kt pt] (.Tuple [a, b] k2 pt2) spos.line X.env = pure false) :
    PS X (.Assign [.Tuple [.Name x px, .Name y py] kt pt] (.Tuple [a, b] k2 pt2) spos) (tSt C (sParFV f1 i m2 j)) := by
  refine psOf (ps_par hc hN hi hj hij hx hy (pa_cons ha (pa_cons (pe_x hb) pa_nil s2) s1) hw hs) fun D sg H w => ?_
  obtain ⟨ow, env, o, e, R, k⟩ := w
  unfold sParFV at e
  obtain ⟨⟨d1, e1⟩, h1, e⟩ := Option.bind_eq_some_iff.mp e
  obtain ⟨⟨r2, e2⟩, h2, e⟩ := Option.bind_eq_some_iff.mp e
  obtain ⟨⟨d2, e3⟩, h3, e⟩ := Option.bind_eq_some_iff.mp e
  obtain ⟨e4, h4, e⟩ := Option.bind_eq_some_iff.mp e
  obtain ⟨e5, h5, e⟩ := Option.bind_eq_some_iff.mp e
  cases e
  refine ⟨ow, env, d1, e1, h1, R, fun q H1 ow1 hq R1 T1 rt => ⟨C.plus q, hK, ow1, e1, r2, e2, h2, R1, fun v H2 ow2 R2 T2 D2 => ?_⟩⟩
  obtain ⟨ow3, R3, T3, D3⟩ := force_ok R2 D2 h3
  obtain ⟨f1', f2', f3'⟩ := R.fresh3 (p := ⟨ow, sg, H, env⟩) hq
  have rt3 : Root C.K H2 (Av (C.plus q) ow3) d1 q := Root.go (C := C.plus q) (T2.trans T3) (fun i z => R1.ownA i q z (.inr rfl)) rt
  obtain ⟨g1, rfl⟩ := storeS_inv h4
  obtain ⟨g2, rfl⟩ := storeS_inv h5
  obtain ⟨R4, T4⟩ := store_ow (p0 := ⟨ow, sg, H, env⟩) (p := ⟨ow3, sg, H2, e3⟩) R3 (T1.trans (T2.trans T3)) hq f1' f2' f3' g1 rt3
  have D4 : Den C.K H2 (Av C (setOw ow3 i (some q))) d2 v := Den.less (fun b z => by
    rcases z with z | ⟨l, z⟩
    · exact .inl (.inl z)
    · by_cases hl : l = i
      · rw [hl, setOw_eq] at z; cases z; exact .inl (.inr rfl)
      · rw [setOw_ne hl] at z; exact .inr ⟨l, z⟩) D3
  obtain ⟨R5, T5⟩ := store_sh R4 g2 D4
  exact ⟨.ref q, v, rfl, k _ _ _ R5 (T4.trans T5)⟩
theorem st_parVF {i j : Nat} {x y : Str} {px py pt spos : Pos} {kt k2 : Nat} {pt2 : Pos} (hK : C.K = X.K) (hc : X.calm = true) (hN : X.N.Nodup) (hi : X.N[i]? = some x) (hj : X.N[j]? = some y) (hij : i ≠ j)
    (hx : X.env.scope.names.lookup x = some .local) (hy : X.env.scope.names.lookup y = some .local) (ha : PE X a (tS C m1)) (hb : PE X b (tF C f2)) (s1 : starEach [a, b] X.env = (false, eval a X.env) :: starEach [b] X.env) (s2 : starEach [b] X.env = (false, eval b X.env) :: starEach [] X.env)
    (hw : swappedStores [.Tuple [.Name x px, .Name y py] kt pt] (.Tuple [a, b] k2 pt2) X.env = pure (some [x, y]))
    (hs : swapsWithSole [.Tuple [.Name x px, .Name y py] kt pt] (.Tuple [a, b] k2 pt2) spos.line X.env = pure false) :
    PS X (.Assign [.Tuple [.Name x px, .Name y py] kt pt] (.Tuple [a, b] k2 pt2) spos) (tSt C (sParVF m1 i f2 j)) := by
  refine psOf (ps_par hc hN hi hj hij hx hy (pa_cons ha (pa_cons hb pa_nil s2) s1) hw hs) fun D sg H w => ?_
  obtain ⟨ow, env, o, e, R, k⟩ := w
  unfold sParVF at e
  obtain ⟨⟨r1, e1⟩, h1, e⟩ := Option.bind_eq_some_iff.mp e
  obtain ⟨⟨d2, e2⟩, h2, e⟩ := Option.bind_eq_some_iff.mp e
  obtain ⟨⟨d1, e3⟩, h3, e⟩ := Option.bind_eq_some_iff.mp e
  obtain ⟨e4, h4, e⟩ := Option.bind_eq_some_iff.mp e
  obtain ⟨e5, h5, e⟩ := Option.bind_eq_some_iff.mp e
  cases e
  refine ⟨ow, env, r1, e1, h1, R, fun v H1 ow1 R1 T1 D1 => ⟨ow1, e1, d2, e2, h2, R1, fun q H2 ow2 hq R2 T2 rt => ?_⟩⟩
  have D2 : RDen (C.plus q) ⟨ow2, sg, H2, e2⟩ r1 v := by
    cases r1 with
    | val d =>
      refine Den.to (Av.sub1 (C := C) T2) (fun b e n z => ?_) d v D1
      rcases z with (z | z) | z
      · exact n (.inl z)
      · exact e (z ▸ hq)
      · exact Av.sub2 (C := C) T2 b e n (.inr z)
    | slot l => exact D1
  obtain ⟨ow3, R3, T3, D3⟩ := force_ok R2 D2 h3
  obtain ⟨g1, rfl⟩ := storeS_inv h4
  obtain ⟨g2, rfl⟩ := storeS_inv h5
  obtain ⟨R4, T4⟩ := store_sh R3 g1 D3
  have hqH : H q = none := by
    cases z : H q with
    | none => rfl
    | some o => exact absurd hq (T1.trk q (by show H q ≠ none; rw [z]; exact fun w => nomatch w))
  obtain ⟨f1', f2', f3'⟩ := R.fresh3 (p := ⟨ow, sg, H, env⟩) hqH
  have rt4 := Root.go (C := C.plus q) (T3.trans T4) (fun i z => R2.ownA i q z (.inr rfl)) rt
  obtain ⟨R5, T5⟩ := store_ow (p0 := ⟨ow, sg, H, env⟩) R4 (T1.trans (T2.trans (T3.trans T4))) hqH f1' f2' f3' g2 rt4
  exact ⟨v, .ref q, rfl, k _ _ _ R5 T5⟩
theorem plus_comm (C : Cf) (a b : Addr) : (C.plus a).plus b = (C.plus b).plus a := by
  unfold Cf.plus
  have : (fun x => (C.A0 x ∨ x = a) ∨ x = b) = fun x => (C.A0 x ∨ x = b) ∨ x = a := by
    funext x
    exact propext or_right_comm
  show Cf.mk _ _ _ _ = Cf.mk _ _ _ _
  dsimp only
  rw [this]
theorem st_parFF {i j : Nat} {x y : Str} {px py pt spos : Pos} {kt k2 : Nat} {pt2 : Pos} (hK : C.K = X.K) (hc : X.calm = true) (hN : X.N.Nodup) (hi : X.N[i]? = some x) (hj : X.N[j]? = some y) (hij : i ≠ j)
    (hx : X.env.scope.names.lookup x = some .local) (hy : X.env.scope.names.lookup y = some .local) (ha : PE X a (tF C f1)) (hb : ∀ C' : Cf, C'.K = X.K → PE X b (tF C' f2)) (s1 : starEach [a, b] X.env = (false, eval a X.env) :: starEach [b] X.env) (s2 : starEach [b] X.env = (false, eval b X.env) :: starEach [] X.env)
    (hw : swappedStores [.Tuple [.Name x px, .Name y py] kt pt] (.Tuple [a, b] k2 pt2) X.env = pure (some [x, y]))
    (hs : swapsWithSole [.Tuple [.Name x px, .Name y py] kt pt] (.Tuple [a, b] k2 pt2) spos.line X.env = pure false) :
    PS X (.Assign [.Tuple [.Name x px, .Name y py] kt pt] (.Tuple [a, b] k2 pt2) spos) (tSt C (sParFF f1 i f2 j)) := by
  refine psOf (ps_par hc hN hi hj hij hx hy (pa_cons ha (pa_cons (pe_fx hb) pa_nil s2) s1) hw hs) fun D sg H w => ?_
  obtain ⟨ow, env, o, e, R, k⟩ := w
  unfold sParFF at e
  obtain ⟨⟨d1, e1⟩, h1, e⟩ := Option.bind_eq_some_iff.mp e
  obtain ⟨⟨d2, e2⟩, h2, e⟩ := Option.bind_eq_some_iff.mp e
  obtain ⟨e4, h4, e⟩ := Option.bind_eq_some_iff.mp e
  obtain ⟨e5, h5, e⟩ := Option.bind_eq_some_iff.mp e
  cases e
  refine ⟨ow, env, d1, e1, h1, R, fun q H1 ow1 hq R1 T1 rt => ⟨C.plus q, hK, ow1, e1, d2, e2, h2, R1, fun r H2 ow2 hr R2 T2 rt2 => ?_⟩⟩
  obtain ⟨g1, rfl⟩ := storeS_inv h4
  obtain ⟨g2, rfl⟩ := storeS_inv h5
  have hrH : H r = none := by
    cases z : H r with
    | none => rfl
    | some o => exact absurd hr (T1.trk r (by show H r ≠ none; rw [z]; exact fun w => nomatch w))
  obtain ⟨f1', f2', f3'⟩ := R.fresh3 (p := ⟨ow, sg, H, env⟩) hq
  obtain ⟨g1', g2', g3'⟩ := R.fresh3 (p := ⟨ow, sg, H, env⟩) hrH
  have hne : r ≠ q := fun z => by rw [z] at hr; exact rt.ne hr
  rw [plus_comm] at R2 rt2
  have rt1 : Root C.K H2 (Av ((C.plus r).plus q) ow2) d1 q := by
    refine rt.to ?_ (Av.sub1 (C := C.plus q) T2) (fun b e n z => ?_)
    · cases z : H1 q with
      | none => exact absurd z rt.ne
      | some o => exact T2.same q o z (fun i w => R1.ownA i q w (.inr rfl))
    · rcases z with ((z | z) | z) | z
      · exact n (.inl (.inl z))
      · exact e (z ▸ hr)
      · exact n (.inl (.inr z))
      · exact Av.sub2 (C := C.plus q) T2 b e n (.inr z)
  obtain ⟨R4, T4⟩ := store_ow (C := C.plus r) (p0 := ⟨ow, sg, H, env⟩) (p := ⟨ow2, sg, H2, e2⟩) R2 (T1.trans T2) hq f1' f2' (fun z => z.elim f3' fun z => hne z.symm) g1 rt1
  have rt4 : Root C.K H2 (Av (C.plus r) (setOw ow2 i (some q))) d2 r := rt2.to rfl (fun _ _ e _ => e) fun b _ n z => n (by
    rcases z with (z | z) | ⟨l, z⟩
    · exact .inl (.inl (.inl z))
    · exact .inl (.inl (.inr z))
    · by_cases hl : l = i
      · rw [hl, setOw_eq] at z; cases z; exact .inl (.inr rfl)
      · rw [setOw_ne hl] at z; exact .inr ⟨l, z⟩)
  obtain ⟨R5, T5⟩ := store_ow (C := C) (p0 := ⟨ow, sg, H, env⟩) R4 T4 hrH g1' g2' g3' g2 rt4
  exact ⟨.ref q, .ref r, rfl, k _ _ _ R5 T5⟩
end
end NL

/-! NLK: list + list, list * n, list[a:b] as new lists that the def goes on to change -/
namespace NL
open PySem PySem.Spec L2
open PyProof.Rows hiding St

section
variable {X : Cx} {C : Cf} {e a b : Expr} {pos : Pos} {m m1 m2 : Sem}
def OpF (X : Cx) (C : Cf) (f : Value → Value → PySem.Sem Value) (g : D → D → Option (List D)) : Prop :=
  ∃ r : R2, OpR X f r ∧ ∀ (p : Ps) (d1 d2 : D) (l : List D) (x y : V) (Q : VK), Rel C p → BDen C.K p.H (Av C p.ow) d1 x → BDen C.K p.H (Av C p.ow) d2 y → g d1 d2 = some l →
    (∀ q xs, p.H q = none → Dens C.K p.H (Av C p.ow) l xs → Q (.ref q) (upd p.H q (.lst xs))) → r x y p.H Q
def fOp (g : D → D → Option (List D)) (m1 m2 : Sem) : SemF := fun env => (m1 env).bind fun x => (m2 x.2).bind fun y => (deref y.2 x.1).bind fun d1 => (deref y.2 y.1).bind fun d2 => (g d1 d2).bind fun l => some (.lst l, y.2)
theorem f_op {op : Operator} {g : D → D → Option (List D)} (ho : OpF X C (binaryOp op) g) (ha : PE X a (tS C m1)) (hb : PE X b (tS C m2)) : PE X (.BinOp a op b pos) (tF C (fOp g m1 m2)) := by
  obtain ⟨r, hr, hq⟩ := ho
  refine peOf (pe_op hr ha hb) fun sg H Q h => ?_
  obtain ⟨ow, env, dd, env', e, R, k⟩ := h
  unfold fOp at e
  obtain ⟨⟨r1, e1⟩, h1, e⟩ := Option.bind_eq_some_iff.mp e
  obtain ⟨⟨r2, e2⟩, h2, e⟩ := Option.bind_eq_some_iff.mp e
  obtain ⟨d1, h3, e⟩ := Option.bind_eq_some_iff.mp e
  obtain ⟨d2, h4, e⟩ := Option.bind_eq_some_iff.mp e
  obtain ⟨l, h5, e⟩ := Option.bind_eq_some_iff.mp e
  cases e
  refine ⟨ow, env, r1, e1, h1, R, fun x H1 ow1 R1 T1 D1 => ⟨ow1, e1, r2, e2, h2, R1, fun y H2 ow2 R2 T2 D2 => ?_⟩⟩
  refine hq ⟨ow2, sg, H2, e2⟩ d1 d2 l x y Q R2 ((D1.go T2 rfl).b R2 h3) (D2.b R2 h4) h5 fun q xs hq dn => ?_
  obtain ⟨R3, T3, mv⟩ := R2.newAt (.lst xs) hq
  have hqH : H q = none := by
    cases z : H q with
    | none => rfl
    | some o => exact absurd hq ((T1.trans T2).trk q (by show H q ≠ none; rw [z]; exact fun w => nomatch w))
  exact k q _ ow2 hqH R3 (T1.trans (T2.trans T3)) ⟨xs, upd_same, Dens.newAt mv dn⟩
def gCatL : D → D → Option (List D)
  | .lst a, .lst b => if a.length + b.length ≤ sizeLine then some (a ++ b) else none
  | _, _ => none
theorem o_catL : OpF X C (binaryOp .Add) gCatL := by
  refine ⟨_, op_cat, fun p d1 d2 l x y Q R h1 h2 e k => ?_⟩
  unfold gCatL at e
  split at e
  · split at e
    · rename_i hz
      cases e
      obtain ⟨a1, xs, rfl, s1, r1⟩ := bLst h1
      obtain ⟨a2, ys, rfl, s2, r2⟩ := bLst h2
      exact ⟨a1, a2, xs, ys, rfl, rfl, s1, s2, by rw [← r1.length, ← r2.length]; exact hz, fun q hq => k q _ hq (r1.append r2)⟩
    · cases e
  · cases e
def gRepL : D → D → Option (List D)
  | .lst l, .int k => if decide (-(2 ^ 63) ≤ k) && decide (k < 2 ^ 63) && decide (l.length * k.toNat ≤ sizeLine) then some (repD l k.toNat) else none
  | _, _ => none
theorem o_repL : OpF X C (binaryOp .Mult) gRepL := by
  refine ⟨_, op_rep, fun p d1 d2 l x y Q R h1 h2 e k => ?_⟩
  unfold gRepL at e
  split at e
  · split at e
    · rename_i hz
      simp only [Bool.and_eq_true, decide_eq_true_eq] at hz
      cases e; cases bInt h2
      obtain ⟨a1, xs, rfl, s1, r1⟩ := bLst h1
      exact ⟨a1, _, xs, rfl, rfl, s1, hz.1.1, hz.1.2, by rw [← r1.length]; exact hz.2, fun q hq => k q _ hq (r1.rep _)⟩
    · cases e
  · cases e
def fSl (m : Sem) (p1 p2 : SemP) : SemF := fun env => (m env).bind fun x => (p1 x.2).bind fun y => (p2 y.2).bind fun z => (deref z.2 x.1).bind fun d => match d with
  | .lst l => some (.lst (cutD l y.1 z.1), z.2)
  | .fl l => some (.lst (cutD l y.1 z.1), z.2)
  | _ => none
theorem f_sl {lo hi : Option Expr} {p1 p2 : SemP} {pp : Pos} (hK : C.K = X.K) (he : PE X e (tS C m)) (hl : PO X lo (tP C p1)) (hu : PO X hi (tP C p2)) : PE X (.Subscript e (.Slice lo hi none pp) pos) (tF C (fSl m p1 p2)) := by
  refine peOf (pe_slice sl_list he hl hu) fun sg H Q w => ?_
  obtain ⟨ow, env, r, env', e, R, k⟩ := w
  unfold fSl at e
  obtain ⟨⟨r1, e1⟩, h1, e⟩ := Option.bind_eq_some_iff.mp e
  obtain ⟨⟨o1, e2⟩, h2, e⟩ := Option.bind_eq_some_iff.mp e
  obtain ⟨⟨o2, e3⟩, h3, e⟩ := Option.bind_eq_some_iff.mp e
  obtain ⟨d, h4, e⟩ := Option.bind_eq_some_iff.mp e
  refine ⟨ow, env, r1, e1, h1, R, fun v H1 ow1 R1 T1 D1 => ⟨ow1, e1, o1, e2, h2, R1, fun H2 ow2 R2 T2 => ⟨ow2, e2, o2, e3, h3, R2, fun H3 ow3 R3 T3 => ?_⟩⟩⟩
  have B := (D1.go (T2.trans T3) rfl).b R3 h4
  have Tall := T1.trans (T2.trans T3)
  have fin : ∀ (l : List D) (xs : List V) q, H3 q = none → Dens C.K H3 (Av C ow3) l xs → r = .lst l → env' = e3 → Q (.ref q) (upd H3 q (.lst xs)) := fun l xs q hq dn er ee => by
    subst er ee
    obtain ⟨R4, T4, mv⟩ := R3.newAt (.lst xs) hq
    have hqH : H q = none := by
      cases z : H q with
      | none => rfl
      | some o => exact absurd hq (Tall.trk q (by show H q ≠ none; rw [z]; exact fun w => nomatch w))
    exact k q _ ow3 hqH R4 (Tall.trans T4) ⟨xs, upd_same, Dens.newAt mv dn⟩
  cases d with
  | lst l =>
    cases e
    obtain ⟨a, xs, rfl, s, rr⟩ := bLst B
    exact ⟨a, xs, rfl, SqL.of s, fun q hq => fin _ _ q hq (cutV_den rr o1 o2) rfl rfl⟩
  | fl l =>
    cases e
    obtain ⟨a, xs, rfl, s, rr⟩ := bFl B
    rw [hK] at s
    exact ⟨a, xs, rfl, s, fun q hq => fin _ _ q hq (cutV_den rr o1 o2) rfl rfl⟩
  | _ => cases e
end
end NL

/-! NLC: what a text does, by computation -/
namespace NL
open PySem PySem.Spec L2
open PyProof.Rows hiding St

inductive BI where
  | len | abs | max | min | sum | any | all | isi | sorted | int | str | tuple | range | enum | zip | list | bool | dict
def BI.name : BI → Str
  | .len => "len" | .abs => "abs" | .max => "max" | .min => "min" | .sum => "sum" | .any => "any" | .all => "all" | .isi => "isinstance" | .sorted => "sorted"
  | .int => "int" | .str => "str" | .tuple => "tuple" | .range => "range" | .enum => "enumerate" | .zip => "zip" | .list => "list" | .bool => "bool" | .dict => "dict"
inductive MI where
  | gcd | lcm | isqrt
def MI.id : MI → String
  | .gcd => "math.gcd" | .lcm => "math.lcm" | .isqrt => "math.isqrt"
/-- what a global name is -/
inductive GE where
  | bi (b : BI)
  | math (m : MI)
  | cint (i : Int)
  | cstr (x : Str)
  | fn (n : Nat) (S : FnS)
  | fi (n : Nat) (S : FnI)
  | ff (n : Nat) (S : FnS)
/-- a def's names, its scope, which names' cells were made at the entry, the global names, the names of dicts keyed by tuples -/
structure Ga where
  N : List Str
  sc : Scope
  fnk : Str → Bool
  g : List (Str × GE)
  dt : List Str

def GOk (X : Cx) (x : Str) : GE → Prop
  | .bi b => X.mg x = none ∧ x = b.name
  | .math m => X.mg x = some (.builtin m.id)
  | .cint i => ∃ t, X.mg x = some (.int i t)
  | .cstr z => ∃ t, X.mg x = some (.str z t)
  | .fn n S => ∃ k f fd ps, X.mg x = some (.ref f) ∧ PySem.W.keepIn X.K (.ref f) = true ∧ Binds X.K fd ps [] ∧ FnOk X.prog X.w X.K X.mg X.base CX0 k f fd ps (spS X.K n S) ∧ Room k X.A
  | .fi n S => ∃ k f fd ps, X.mg x = some (.ref f) ∧ PySem.W.keepIn X.K (.ref f) = true ∧ Binds X.K fd ps [] ∧ FnOk X.prog X.w X.K X.mg X.base CX0 k f fd ps (spI X.K n S) ∧ Room k X.A
  | .ff n S => ∃ k f fd ps, X.mg x = some (.ref f) ∧ PySem.W.keepIn X.K (.ref f) = true ∧ Binds X.K fd ps [] ∧ FnOk X.prog X.w X.K X.mg X.base CX0 k f fd ps (spR X.K n S) ∧ Room k X.A
structure XOk (G : Ga) (X : Cx) : Prop where
  N : X.N = G.N
  sc : X.env.scope = G.sc
  nd : X.N.Nodup
  calm : X.calm = true
  fnk : ∀ x, G.fnk x = true → X.fn x = true
  xe : X.xe = fun _ _ => False
  kind : X.env.scope.kind = .function
  u : X.A.units + 65 < cLine
  g : ∀ x ge, (x, ge) ∈ G.g → GOk X x ge

/-! ### names -/
def okName (x : Str) : Bool := !(x == ("__debug__" : Str)) && !(x == ("__classdict__" : Str)) && !(x == ("__name__" : Str))
def idx (x : Str) : List Str → Nat → Option Nat
  | [], _ => none
  | y :: l, i => if x == y then some i else idx x l (i + 1)
theorem idx_ok (x : Str) : ∀ (l : List Str) (i j : Nat), idx x l i = some j → i ≤ j ∧ l[j - i]? = some x
  | [], i, j, h => by cases h
  | y :: l, i, j, h => by
    unfold idx at h
    split at h
    · rename_i e
      cases h
      rw [Nat.sub_self]
      exact ⟨Nat.le_refl _, by rw [List.getElem?_cons_zero, eq_of_beq e]⟩
    · obtain ⟨h1, h2⟩ := idx_ok x l (i + 1) j h
      refine ⟨by omega, ?_⟩
      rw [show j - i = (j - (i + 1)) + 1 by omega, List.getElem?_cons_succ]
      exact h2
def visK : Option NameKind → Bool
  | some .local => true
  | some .cell => true
  | some .free => true
  | _ => false
def locK : Option NameKind → Bool
  | some .local => true
  | some .cell => true
  | _ => false
def isLocal : Option NameKind → Bool
  | some .local => true
  | _ => false
def isGl : Option NameKind → Bool
  | some .globalImplicit => true
  | _ => false
def slotOf (G : Ga) (x : Str) : Option Nat := if okName x && visK (G.sc.names.lookup x) then idx x G.N 0 else none
/-- a name that may be stored -/
def stOf (G : Ga) (x : Str) : Option Nat := if locK (G.sc.names.lookup x) && (G.fnk x || isLocal (G.sc.names.lookup x)) then idx x G.N 0 else none
def glOf (G : Ga) (x : Str) : Option GE := if okName x && isGl (G.sc.names.lookup x) then G.g.lookup x else none
section
variable {G : Ga} {X : Cx} {x : Str}
theorem okName_ok (h : okName x = true) : (x == ("__debug__" : Str)) = false ∧ (x == ("__classdict__" : Str)) = false ∧ x ≠ "__name__" := by
  unfold okName at h
  simp only [Bool.and_eq_true, Bool.not_eq_true'] at h
  exact ⟨h.1.1, h.1.2, fun e => by rw [e] at h; simp at h⟩
theorem slotOf_ok (o : XOk G X) {i : Nat} (h : slotOf G x = some i) : X.N[i]? = some x ∧ Vis X.env.scope x ∧ (x == ("__debug__" : Str)) = false ∧ (x == ("__classdict__" : Str)) = false := by
  unfold slotOf at h
  split at h
  · rename_i c
    rw [Bool.and_eq_true] at c
    obtain ⟨n1, n2, _⟩ := okName_ok c.1
    obtain ⟨_, h2⟩ := idx_ok x G.N 0 i h
    refine ⟨by rw [o.N]; exact h2, ?_, n1, n2⟩
    have c2 := c.2
    unfold Vis
    rw [o.sc]
    cases q : G.sc.names.lookup x with
    | none => rw [q] at c2; cases c2
    | some k =>
      rw [q] at c2
      cases k with
      | «local» => exact .inl rfl
      | cell => exact .inr (.inl rfl)
      | free => exact .inr (.inr rfl)
      | _ => cases c2
  · cases h
theorem stOf_ok (o : XOk G X) {i : Nat} (h : stOf G x = some i) : X.N[i]? = some x ∧ L2.Loc X.env.scope x ∧ (X.fn x = true ∨ X.env.scope.names.lookup x = some .local) := by
  unfold stOf at h
  split at h
  · rename_i c
    rw [Bool.and_eq_true, Bool.or_eq_true] at c
    obtain ⟨_, h2⟩ := idx_ok x G.N 0 i h
    obtain ⟨c1, c2⟩ := c
    refine ⟨by rw [o.N]; exact h2, ?_, ?_⟩
    · show _ = _ ∨ _ = _
      rw [o.sc]
      cases q : G.sc.names.lookup x with
      | none => rw [q] at c1; cases c1
      | some k =>
        rw [q] at c1
        cases k with
        | «local» => exact .inl rfl
        | cell => exact .inr rfl
        | _ => cases c1
    · rcases c2 with c2 | c2
      · exact .inl (o.fnk x c2)
      · right
        rw [o.sc]
        cases q : G.sc.names.lookup x with
        | none => rw [q] at c2; cases c2
        | some k =>
          rw [q] at c2
          cases k with
          | «local» => rfl
          | _ => cases c2
  · cases h
theorem mem_look {α : Type} : ∀ {l : List (Str × α)} {x : Str} {a : α}, l.lookup x = some a → (x, a) ∈ l
  | (k, v) :: r, x, a, h => by
    rw [List.lookup_cons] at h
    cases hb : x == k with
    | true => rw [hb] at h; cases h; rw [eq_of_beq hb]; exact List.mem_cons_self
    | false => rw [hb] at h; exact List.mem_cons_of_mem _ (mem_look h)
theorem glOf_ok (o : XOk G X) {ge : GE} (h : glOf G x = some ge) : Gl X x ∧ GOk X x ge ∧ (x == ("__debug__" : Str)) = false ∧ x ≠ "__name__" := by
  unfold glOf at h
  split at h
  · rename_i c
    rw [Bool.and_eq_true] at c
    obtain ⟨n1, _, n3⟩ := okName_ok c.1
    refine ⟨?_, o.g x ge (mem_look h), n1, n3⟩
    have c2 := c.2
    show X.env.scope.names.lookup x = _
    rw [o.sc]
    cases q : G.sc.names.lookup x with
    | none => rw [q] at c2; cases c2
    | some k =>
      rw [q] at c2
      cases k with
      | globalImplicit => rfl
      | _ => cases c2
  · cases h
end

/-! ### stars -/
def isStar : Expr → Bool
  | .Starred _ _ => true
  | _ => false
theorem star_cons {e : Expr} {es : List Expr} {env : PySem.Env} (h : isStar e = false) : starEach (e :: es) env = (false, eval e env) :: starEach es env := by
  cases e <;> first | rfl | cases h
theorem star_plain {pos : Pos} {env : PySem.Env} : ∀ {es : List Expr}, es.any isStar = false → (backTo pos (starEach es env)).any (·.1) = false
  | [], _ => rfl
  | e :: es, h => by
    rw [List.any_cons, Bool.or_eq_false_iff] at h
    rw [star_cons h.1]
    show (false || (backTo pos (starEach es env)).any (·.1)) = false
    rw [star_plain h.2]; rfl
theorem star_all {pos : Pos} {env : PySem.Env} : ∀ {es : List Expr}, es.any isStar = false → (backTo pos (starEach es env)).all (fun x => !x.1) = true
  | [], _ => rfl
  | e :: es, h => by
    rw [List.any_cons, Bool.or_eq_false_iff] at h
    rw [star_cons h.1]
    show (true && (backTo pos (starEach es env)).all (fun x => !x.1)) = true
    rw [star_all h.2]; rfl
theorem asg_cons {e : Expr} {es : List Expr} {env : PySem.Env} (h : isStar e = false) : assignEach (e :: es) env = (false, assign e env) :: assignEach es env := by
  cases e <;> first | rfl | cases h
theorem asg_len {env : PySem.Env} : ∀ {es : List Expr}, es.any isStar = false → (assignEach es env).length = es.length ∧ (assignEach es env).findIdx? (·.1) = none
  | [], _ => ⟨rfl, rfl⟩
  | e :: es, h => by
    rw [List.any_cons, Bool.or_eq_false_iff] at h
    rw [asg_cons h.1]
    obtain ⟨h1, h2⟩ := asg_len (env := env) h.2
    refine ⟨by rw [List.length_cons, List.length_cons, h1], ?_⟩
    rw [List.findIdx?_cons, h2]
    rfl

/-! ### the steps: what is known of the parts -/
structure Rec where
  E : Ga → Expr → Option Sem
  T : Ga → Expr → Option SemB
  W : Ga → Expr → Option SemB
  R : Ga → List Expr → Option SemR
  F : Ga → Bool → Expr → Option SemF
  I : Ga → Expr → Expr → Option SemI
  G : Ga → List Nat → Expr → Option SemG
  Gs : Ga → List Nat → List Expr → Option SemGs
  S : Ga → Stmt → Option SemS
  B : Ga → List Stmt → Option SemS
structure RecOk (r : Rec) : Prop where
  E : ∀ G X C e m, XOk G X → C.K = X.K → r.E G e = some m → PE X e (tS C m)
  T : ∀ G X C e m, XOk G X → C.K = X.K → r.T G e = some m → PT X e (tT C m)
  W : ∀ G X C e m, XOk G X → C.K = X.K → r.W G e = some m → PW X e (tT C m)
  R : ∀ G X C es m, XOk G X → C.K = X.K → r.R G es = some m → PA X es (tR C m) ∧ rlen m es.length ∧ es.any isStar = false
  F : ∀ G X C b e m, XOk G X → C.K = X.K → r.F G b e = some m → PE X e (tF C m)
  I : ∀ G X C tg e m, XOk G X → C.K = X.K → r.I G tg e = some m → PI X tg e (tI C m)
  G : ∀ G X C vs e m, XOk G X → C.K = X.K → r.G G vs e = some m → PG X e (tG C vs m)
  Gs : ∀ G X C vs es m, XOk G X → C.K = X.K → r.Gs G vs es = some m → PGs X es (tGs C vs m) ∧ es.any isStar = false
  S : ∀ G X C st m, XOk G X → C.K = X.K → r.S G st = some m → PS X st (tSt C m)
  B : ∀ G X C st m, XOk G X → C.K = X.K → r.B G st = some m → PSs X st (tSt C m)

def opG : Operator → Option (D → D → Option D)
  | .Add => some gAdd
  | .Sub => some gSub
  | .Mult => some gMul
  | .FloorDiv => some gDiv
  | .Mod => some gMod
  | .Pow => some gPow
  | .LShift => some gShl
  | _ => none
theorem opG_ok {X : Cx} {C : Cf} {op : Operator} {g : D → D → Option D} (hK : C.K = X.K) (h : opG op = some g) : OpB X C (binaryOp op) g := by
  cases op <;> first | (cases h; first | exact b_add hK | exact b_sub | exact b_mul hK | exact b_div | exact b_mod | exact b_pow | exact b_shl) | (exact nomatch h)
def cmpG : CmpOp → Option (D → D → Option D)
  | .Eq => some gEq
  | .NotEq => some gNe
  | .Lt => some gLt
  | .LtE => some gLe
  | .Gt => some gGt
  | .GtE => some gGe
  | .Is => some gIs
  | .IsNot => some gIsNot
  | .In => some gIn
  | .NotIn => some gNotIn
theorem cmpG_ok {X : Cx} {C : Cf} {op : CmpOp} {g : D → D → Option D} (hK : C.K = X.K) (hu : X.A.units + 65 < cLine) (h : cmpG op = some g) : OpB X C (compareOp op) g := by
  cases op <;> (cases h; first | exact b_eq hK (by omega) | exact b_ne hK (by omega) | exact b_lt hK (by omega) | exact b_le | exact b_gt | exact b_ge | exact b_is | exact b_isNot | exact b_in hK hu | exact b_notIn hK hu)
def biG : BI → Option (Bool × (List D → Option D))
  | .len => some (true, one hLen)
  | .abs => some (true, one hAbs)
  | .max => some (true, hMax)
  | .min => some (true, hMin)
  | .sum => some (true, one hSum)
  | .any => some (true, one hAny)
  | .all => some (true, one hAll)
  | .isi => some (true, two hIsi)
  | .sorted => some (true, one hSorted)
  | .int => some (false, one hInt)
  | .str => some (false, one hStr)
  | .tuple => some (false, one hTuple)
  | _ => none
def miG : MI → (List D → Option D)
  | .gcd => two hGcd
  | .lcm => two hLcm
  | .isqrt => one hIsqrt
theorem miG_ok {X : Cx} {C : Cf} (m : MI) : CallB X C (.builtin m.id) (miG m) := by
  cases m
  · exact c_gcd
  · exact c_lcm
  · exact c_isqrt
def tyG : BI → Option TyN
  | .int => some .int
  | .str => some .str
  | .tuple => some .tup
  | .list => some .lst
  | .bool => some .bl
  | .dict => some .dct
  | _ => none

variable (r : Rec)
def cName (G : Ga) (x : Str) : Option Sem := match slotOf G x with
  | some i => some (sVar i)
  | none => match glOf G x with
    | some (.cint i) => some (sC (.int i))
    | some (.cstr z) => some (sC (.str z))
    | some (.bi b) => (tyG b).bind fun t => some (sC (.ty t))
    | _ => none
def cConst : Const → Option Sem
  | .int i => some (sC (.int i))
  | .bool b => some (sC (.bl b))
  | .none => some (sC .non)
  | .str x => some (sC (.str x))
  | _ => none
def cCall (G : Ga) (x : Str) (args : List Expr) : Option Sem := match args with
  | [] => none
  | e :: es => match glOf G x with
    | some (.bi b) => (biG b).bind fun g => (r.R G (e :: es)).bind fun ms => some (sCallB g.2 ms)
    | some (.math m) => (r.R G (e :: es)).bind fun ms => some (sCallB (miG m) ms)
    | some (.fn n S) => if (e :: es).length = n then (r.R G (e :: es)).bind fun ms => some (sCall S ms) else none
    | some (.fi n S) => match e with
      | .Name y _ => if (e :: es).length = n then (slotOf G y).bind fun j => (r.R G es).bind fun ms => some (sCallI S j ms) else none
      | _ => none
    | _ => none
def cMeth (G : Ga) (x : Str) (at_ : Str) (apos pos : Pos) (args : List Expr) : Option Sem :=
  if apos.endLine == pos.line then (slotOf G x).bind fun j => match args with
    | [e] => if isStar e then none else if at_ = ("append" : Str) then (r.E G e).bind fun m => some (sAppend j m)
      else if at_ = ("extend" : Str) then (r.E G e).bind fun m => some (sExtend j m) else none
    | [] => if at_ = ("pop" : Str) then some (sPop j) else none
    | _ => none
  else none
def plainIx : Expr → Bool
  | .Slice _ _ _ _ => false
  | _ => true
def cPart (G : Ga) : Option Expr → Option SemP
  | none => some pNone
  | some e => (r.E G e).bind fun m => some (pSome m)
def cCmp (G : Ga) (a : Expr) (ops : List CmpOp) (bs : List Expr) : Option Sem := match ops, bs with
    | [op], [b] => if behindInMarks op b then none else (cmpG op).bind fun g => (r.E G a).bind fun m1 => (r.E G b).bind fun m2 => some (sOp g m1 m2)
    | [op, op'], [b, c] => if lastMarks [op, op'] [b, c] then none else (cmpG op).bind fun g => (cmpG op').bind fun g' => (r.E G a).bind fun m1 => (r.E G b).bind fun m2 => (r.E G c).bind fun m3 => some (sChain g g' m1 m2 m3)
    | _, _ => none
def stepE (G : Ga) (e : Expr) : Option Sem := match e with
  | .Name x _ => cName G x
  | .Constant c _ _ => cConst c
  | .BinOp a op b _ => (opG op).bind fun g => (r.E G a).bind fun m1 => (r.E G b).bind fun m2 => some (sOp g m1 m2)
  | .UnaryOp op a _ => match op with
    | .USub => (r.E G a).bind fun m => some (sUn gNeg m)
    | .Not => (r.E G a).bind fun m => some (sNotV m)
    | _ => none
  | .BoolOp op l pos => match l with
    | [a] => r.E G a
    | a :: b :: rest => match op with
      | .And => (r.E G a).bind fun m1 => (r.E G (.BoolOp .And (b :: rest) pos)).bind fun m2 => some (sAndV m1 m2)
      | .Or => (r.E G a).bind fun m1 => (r.E G (.BoolOp .Or (b :: rest) pos)).bind fun m2 => some (sOrV m1 m2)
    | _ => none
  | .Compare a ops bs _ => cCmp r G a ops bs
  | .IfExp t a b _ => (r.T G t).bind fun mt => (r.E G a).bind fun m1 => (r.E G b).bind fun m2 => some (sIf mt m1 m2)
  | .Tuple es _ _ => (r.R G es).bind fun ms => some (sTup ms)
  | .Subscript a i _ => match i with
    | .Slice lo hi st _ => match st with
      | none => (r.E G a).bind fun m => (cPart r G lo).bind fun p1 => (cPart r G hi).bind fun p2 => some (sSl m p1 p2)
      | _ => none
    | i => (r.E G a).bind fun m1 => (r.E G i).bind fun m2 => some (sOp gIx m1 m2)
  | .Call f args kws pos => match kws with
    | [] => match f with
      | .Name x _ => match cCall r G x args with
        | some m => some m
        | none => (r.F G false e).bind fun m => some (sGive m)
      | .Attribute o at_ apos => match o with
        | .Name x _ => cMeth r G x at_ apos pos args
        | _ => none
      | _ => none
    | _ => none
  | .List _ _ => (r.F G false e).bind fun m => some (sGive m)
  | .ListComp _ _ _ _ => (r.F G false e).bind fun m => some (sGive m)
  | .Dict _ _ _ => (r.F G false e).bind fun m => some (sGive m)
  | _ => none
def isPlainT : Expr → Bool
  | .UnaryOp .Not _ _ => false
  | .BoolOp _ _ _ => false
  | .IfExp _ _ _ _ => false
  | .Compare _ _ _ _ => false
  | _ => true
theorem plainT {e : Expr} {env : PySem.Env} (h : isPlainT e = true) : ∀ whole, isTrue e env whole = (do let v ← whole; standAt e.pos; holding [v] (truthy v)) := by
  intro whole
  cases e with
  | UnaryOp op a p => cases op <;> first | rfl | cases h
  | BoolOp _ _ _ => cases h
  | IfExp _ _ _ _ => cases h
  | Compare _ _ _ _ => cases h
  | _ => rfl
def stepW (G : Ga) (e : Expr) : Option SemB := match e with
  | .BoolOp op l pos => match l with
    | [a] => r.T G a
    | a :: b :: rest => match op with
      | .And => (r.T G a).bind fun m1 => (r.W G (.BoolOp .And (b :: rest) pos)).bind fun m2 => some (sAnd m1 m2)
      | .Or => (r.T G a).bind fun m1 => (r.W G (.BoolOp .Or (b :: rest) pos)).bind fun m2 => some (sOr m1 m2)
    | _ => none
  | _ => none
def stepT (G : Ga) (e : Expr) : Option SemB := match e with
  | .BoolOp _ _ _ => r.W G e
  | .UnaryOp op a _ => match op with
    | .Not => (r.T G a).bind fun m => some (sNot m)
    | _ => (r.E G e).bind fun m => some (sTruth m)
  | .Compare a ops bs _ => (cCmp r G a ops bs).bind fun m => some (sTB m)
  | .IfExp _ _ _ _ => none
  | _ => (r.E G e).bind fun m => some (sTruth m)
def stepR (G : Ga) (es : List Expr) : Option SemR := match es with
  | [] => some sNil
  | e :: es => if isStar e then none else (r.E G e).bind fun m => (r.R G es).bind fun ms => some (sCons m ms)
/-- the block of a comprehension -/
def ownSl (G : Ga) (scope : Scope) : List (Str × Nat) := scope.names.filterMap fun y => if locK (some y.2) then (idx y.1 G.N 0).map fun i => (y.1, i) else none
def blkG (G : Ga) (scope : Scope) : Ga := { G with sc := relS scope G.sc, fnk := fun x => scope.names.lookup x == some .cell }
def cIfs (G : Ga) : List Expr → Option SemB
  | [] => some sYes
  | [c] => r.T G c
  | _ => none
def noSet : Expr → Bool
  | .Set _ _ _ => false
  | _ => true
theorem folded {e : Expr} {env : PySem.Env} (h : noSet e = true) : ∀ x, foldedSetIterable e env x = pure x := by
  intro x
  cases e <;> first | rfl | cases h
def cLc (G : Ga) (elt : Expr) (gens : List Comprehension) (scope : Scope) : Option SemF := match gens with
  | [⟨tg, iter, ifs, 0⟩] => if noSet iter && blkC G.N G.sc scope (ownSl G scope) then
      (r.I G tg iter).bind fun mi => (r.G (blkG G scope) ((ownSl G scope).map (·.2)) tg).bind fun g => (cIfs r (blkG G scope) ifs).bind fun tt => (r.E (blkG G scope) elt).bind fun te => some (fLc mi ((ownSl G scope).map (·.2)) g tt te) else none
  | _ => none
def stepF (G : Ga) (dt : Bool) (e : Expr) : Option SemF := match e with
  | .List es _ => (r.R G es).bind fun ms => some (fLst ms)
  | .Dict ks vs _ => match ks, vs with
    | [], [] => some (if dt then fDictT else fDict)
    | _, _ => none
  | .ListComp elt gens scope _ => cLc r G elt gens scope
  | .BinOp a op b _ => if dt then match op with
      | .Add => (r.E G a).bind fun m1 => (r.E G b).bind fun m2 => some (fOp gCatL m1 m2)
      | .Mult => (r.E G a).bind fun m1 => (r.E G b).bind fun m2 => some (fOp gRepL m1 m2)
      | _ => none
    else none
  | .Subscript a i _ => if dt then match i with
      | .Slice lo hi st _ => match st with
        | none => (r.E G a).bind fun m => (cPart r G lo).bind fun p1 => (cPart r G hi).bind fun p2 => some (fSl m p1 p2)
        | _ => none
      | _ => none
    else none
  | .Call f args kws _ => match kws with
    | [] => match f with
      | .Name x _ => match args with
        | [] => none
        | e :: es => match glOf G x with
          | some (.bi .list) => match es with
            | [] => (r.R G [e]).bind fun ms => some (fList ms)
            | _ => none
          | some (.ff n S) => if (e :: es).length = n then (r.R G (e :: es)).bind fun ms => some (fCall S ms) else none
          | _ => none
      | _ => none
    | _ => none
  | _ => none
def stepI (G : Ga) (tg e : Expr) : Option SemI := match e with
  | .Call f args kws _ => match kws with
    | [] => match f with
      | .Name x _ => match glOf G x with
        | some (.bi .range) => (r.R G args).bind fun ms => if decide (args.length = 1) || decide (args.length = 2) || decide (args.length = 3) then some (sRangeI ms) else none
        | some (.bi .enum) => match tg with
          | .Tuple _ _ _ => match args with
            | [_] => (r.R G args).bind fun ms => some (sEnumI ms)
            | _ => none
          | _ => none
        | some (.bi .zip) => match tg with
          | .Tuple _ _ _ => match args with
            | [_, _] => (r.R G args).bind fun ms => some (sZipI ms)
            | _ => none
          | _ => none
        | _ => (r.E G e).bind fun m => some (sSeqI m)
      | _ => (r.E G e).bind fun m => some (sSeqI m)
    | _ => none
  | _ => (r.E G e).bind fun m => some (sSeqI m)
def stepG (G : Ga) (vs : List Nat) (e : Expr) : Option SemG := match e with
  | .Name x _ => (stOf G x).bind fun i => if vs.contains i then some (gName i) else none
  | .Tuple es _ _ => (r.Gs G vs es).bind fun gs => some (gTup es.length gs)
  | .Subscript o i _ => match o with
    | .Name x _ => if plainIx i then (slotOf G x).bind fun j => (r.E G i).bind fun m => some (gSet j m) else none
    | _ => none
  | _ => none
def stepGs (G : Ga) (vs : List Nat) (es : List Expr) : Option SemGs := match es with
  | [] => some gsNil
  | e :: es => if isStar e then none else (r.G G vs e).bind fun g => (r.Gs G vs es).bind fun gs => some (gsCons g gs)
/-- how the stores of a pair go -/
def isStarred : Expr → Bool := fun | .Starred .. => true | _ => false
def swR (kind : Str → Option NameKind) (ts vs : List Expr) : Option (Option (List Str)) :=
  if !(ts.length == 2 || ts.length == 3) || vs.length != ts.length then some none
  else if vs.any (fun | .Starred .. => true | _ => false) then some none
  else
    let line := (ts.head?.map (·.pos.line)).getD 0
    let names := ts.filterMap fun
      | .Name id pos => if kind id == some .local && pos.line == line then some id else none
      | _ => none
    if names.length != ts.length || names.eraseDups.length != names.length then some none
    else if vs.all (foldedForSure 8) then some none
    else if vs.all (constantsAlone 8) then none
    else some (some names)
theorem swR_ok {ts vs : List Expr} {env : PySem.Env} {k k2 : Nat} {p p2 : Pos} {o : Option (List Str)} (hb : env.scope.kind = .function) (h : swR env.kindOf ts vs = some o) : swappedStores [.Tuple ts k p] (.Tuple vs k2 p2) env = pure o := by
  have hbk : (env.blockKind != ScopeKind.function) = false := by unfold Env.blockKind; rw [hb]; rfl
  unfold swR at h
  dsimp only at h
  unfold swappedStores
  dsimp only
  rw [hbk, Bool.or_false]
  split at h
  · rename_i c; cases h; split
    · rfl
    · rename_i d; exact absurd c d
  · rename_i c
    split
    · rename_i d; exact absurd d c
    · split at h
      · rename_i c2; cases h; split
        · rfl
        · rename_i d; exact absurd c2 d
      · rename_i c2
        split
        · rename_i d; exact absurd d c2
        · split at h
          · rename_i c3; cases h; split
            · rfl
            · rename_i d; exact absurd c3 d
          · rename_i c3
            split
            · rename_i d; exact absurd d c3
            · split at h
              · rename_i c4; cases h; split
                · rfl
                · rename_i d; exact absurd c4 d
              · rename_i c4
                split
                · rename_i d; exact absurd d c4
                · split at h
                  · cases h
                  · rename_i c5; cases h; split
                    · rename_i d; exact absurd d c5
                    · rfl

/-! ### statements -/
def noSD : Expr → Bool
  | .SetComp _ _ _ _ => false
  | .DictComp _ _ _ _ _ => false
  | _ => true
def isLc : Expr → Bool
  | .ListComp _ _ _ _ => true
  | _ => false
def swV (k : Str → Option NameKind) (value : Expr) (t : Str) (line : Nat) : Bool := match value with
  | .ListComp _ _ s _ => k t == some .local && line == value.pos.line && !(s.names.any fun (n, k) => n == t && (k == .local || k == .cell))
  | _ => false
def allV (G : Ga) : List Nat := List.range G.N.length
def cAsgN (G : Ga) (x : Str) (px : Pos) (e : Expr) (spos : Pos) : Option SemS := (stOf G x).bind fun i => match r.F G (G.dt.contains x) e with
  | some m => if swV (fun y => G.sc.names.lookup y) e x px.line then none else if noSD e then some (sOwn m i) else none
  | none => if noSD e && !isLc e then (r.E G e).bind fun m => some (sAsg m (gName i)) else none
def cAsgL (G : Ga) (x : Str) (px : Pos) (elt : Expr) (gens : List Comprehension) (scope : Scope) (p : Pos) : Option SemS := (stOf G x).bind fun i =>
  if swV (fun y => G.sc.names.lookup y) (.ListComp elt gens scope p) x px.line then (cLc r G elt gens scope).bind fun m => some (sOwn m i) else none
def noTup : Expr → Bool
  | .Tuple _ _ _ => false
  | _ => true
def okTg : Expr → Bool
  | .Tuple _ _ _ => true
  | .Subscript _ _ _ => true
  | _ => false
def cAsgT (G : Ga) (tg : Expr) (e : Expr) : Option SemS := if okTg tg && noSD e then (r.E G e).bind fun m => (r.G G (allV G) tg).bind fun g => some (sAsg m g) else none
def cPar2 (G : Ga) (x y : Str) (a b : Expr) (i j : Nat) : Option SemS := if isStar a || isStar b then none else match r.F G (G.dt.contains x) a with
  | some f1 => match r.F G (G.dt.contains y) b with
    | some f2 => some (sParFF f1 i f2 j)
    | none => (r.E G b).bind fun m2 => some (sParFV f1 i m2 j)
  | none => match r.F G (G.dt.contains y) b with
    | some f2 => (r.E G a).bind fun m1 => some (sParVF m1 i f2 j)
    | none => (r.R G [a, b]).bind fun ms => some (sAsg (sTup ms) (gTup 2 (gsCons (gName i) (gsCons (gName j) gsNil))))
def cPar (G : Ga) (ts vs : List Expr) (tg e : Expr) : Option SemS := match swR (fun y => G.sc.names.lookup y) ts vs with
  | some none => cAsgT r G tg e
  | some (some [x, y]) => match ts, vs with
    | [.Name x' _, .Name y' _], [a, b] => if x = x' && y = y' && isLocal (G.sc.names.lookup x) && isLocal (G.sc.names.lookup y) then (idx x G.N 0).bind fun i => (idx y G.N 0).bind fun j => if i = j then none else cPar2 r G x y a b i j else none
    | _, _ => none
  | _ => none
def stepS (G : Ga) (st : Stmt) : Option SemS := match st with
  | .Assign tgs e pos => match tgs with
    | [tg] => match tg with
      | .Name x px => match e with
        | .ListComp elt gens scope p => match cAsgL r G x px elt gens scope p with
          | some m => some m
          | none => cAsgN r G x px e pos
        | _ => cAsgN r G x px e pos
      | .Tuple ts _ _ => match e with
        | .Tuple vs _ _ => cPar r G ts vs tg e
        | _ => cAsgT r G tg e
      | .Subscript _ _ _ => cAsgT r G tg e
      | _ => none
    | _ => none
  | .Return e _ => match e with
    | none => some sRetN
    | some e => (r.E G e).bind fun m => some (sRet m)
  | .Expr e _ => match e with
    | .Constant c _ _ => match c with
      | .str _ => some sSkip
      | _ => none
    | _ => if noSD e && !isLc e then (r.E G e).bind fun m => some (sDrop m) else none
  | .If c p q _ => (r.T G c).bind fun mt => (r.B G p).bind fun a => (r.B G q).bind fun b => some (sIfS mt a b)
  | .While c p q _ => match q with
    | [] => (r.T G c).bind fun mt => (r.B G p).bind fun a => some (sWhile mt a)
    | _ => none
  | .For tg iter p q _ => match q with
    | [] => if noSet iter then (r.I G tg iter).bind fun mi => (r.G G (allV G) tg).bind fun g => (r.B G p).bind fun b => some (sFor mi g b) else none
    | _ => none
  | .Break _ => some sBreak
  | .Continue _ => some sCont
  | .Pass _ => some sSkip
  | _ => none
def stepB (G : Ga) (l : List Stmt) : Option SemS := match l with
  | [] => some sSkip
  | [s] => r.S G s
  | s :: rest => (r.S G s).bind fun a => (r.B G rest).bind fun b => some (sSeq a b)
def rec0 : Rec := ⟨fun _ _ => none, fun _ _ => none, fun _ _ => none, fun _ _ => none, fun _ _ _ => none, fun _ _ _ => none, fun _ _ _ => none, fun _ _ _ => none, fun _ _ => none, fun _ _ => none⟩
def recS (r : Rec) : Rec := ⟨stepE r, stepT r, stepW r, stepR r, stepF r, stepI r, stepG r, stepGs r, stepS r, stepB r⟩
def recN : Nat → Rec
  | 0 => rec0
  | n + 1 => recS (recN n)
end NL

/-! NLD: the steps are right -/
namespace NL
open PySem PySem.Spec L2
open PyProof.Rows hiding St

variable {G : Ga} {X : Cx} {C : Cf} {r : Rec}
theorem XOk.u1 (o : XOk G X) : X.A.units + 1 < cLine := by have := o.u; omega
theorem XOk.pas (o : XOk G X) : PassesOwn (model X.prog X.w) X.A X.env X.xe := by rw [o.xe]; exact PassesOwn.never
theorem bi_callB {b : BI} {g : Bool × (List D → Option D)} {x : Str} {p pos : Pos} {e : Expr} {es : List Expr} {ms : SemR} (o : XOk G X) (hK : C.K = X.K) (hg : Gl X x) (hb : GOk X x (.bi b)) (hd : (x == ("__debug__" : Str)) = false) (hn : x ≠ "__name__") (h : biG b = some g)
    (ha : PA X (e :: es) (tR C ms)) (hst : (e :: es).any isStar = false) : PE X (.Call (.Name x p) (e :: es) [] pos) (tS C (sCallB g.2 ms)) := by
  obtain ⟨hm, hx⟩ := hb
  rw [List.any_cons, Bool.or_eq_false_iff] at hst
  have h1 := star_cons (es := es) (env := X.env) hst.1
  have h2 := star_plain (pos := pos) (env := X.env) hst.2
  subst hx
  cases b <;> first | (cases h; done) | (cases h; first
    | exact s_callB (c_len hK) hg hm rfl ha hn hd h1 h2
    | exact s_callB c_abs hg hm rfl ha hn hd h1 h2
    | exact s_callB (c_max hK o.calm) hg hm rfl ha hn hd h1 h2
    | exact s_callB (c_min hK o.calm) hg hm rfl ha hn hd h1 h2
    | exact s_callB (c_sum hK o.calm) hg hm rfl ha hn hd h1 h2
    | exact s_callB (c_any hK o.calm) hg hm rfl ha hn hd h1 h2
    | exact s_callB (c_all hK o.calm) hg hm rfl ha hn hd h1 h2
    | exact s_callB (c_isi hK) hg hm rfl ha hn hd h1 h2
    | exact s_callB (c_sorted hK) hg hm rfl ha hn hd h1 h2
    | exact s_callTy c_int hg hm rfl ha hn hd h1 h2
    | exact s_callTy c_str hg hm rfl ha hn hd h1 h2
    | exact s_callTy (c_tuple hK) hg hm rfl ha hn hd h1 h2)
theorem tyG_ok {b : BI} {t : TyN} (h : tyG b = some t) : bootBuiltins b.name = some (.type t.name) := by
  cases b <;> first | (cases h; done) | (cases h; rfl)
theorem cName_ok {x : Str} {pos : Pos} {m : Sem} (o : XOk G X) (h : cName G x = some m) : PE X (.Name x pos) (tS C m) := by
  unfold cName at h
  split at h
  · rename_i i hi
    cases h
    obtain ⟨h1, h2, h3, h4⟩ := slotOf_ok o hi
    exact s_var h1 h2 h3 h4
  · split at h
    · rename_i hg; cases h
      obtain ⟨h1, h2, h3, h4⟩ := glOf_ok o hg
      exact s_gint h1 h2 h3
    · rename_i hg; cases h
      obtain ⟨h1, h2, h3, h4⟩ := glOf_ok o hg
      exact s_gstr h1 h2 h3
    · rename_i b hg
      obtain ⟨t, ht, h⟩ := Option.bind_eq_some_iff.mp h
      cases h
      obtain ⟨h1, ⟨h2, hx⟩, h3, h4⟩ := glOf_ok o hg
      exact s_gty h1 h2 (hx ▸ tyG_ok ht) h4 h3
    · cases h
theorem cConst_ok {c : Const} {k : Nat} {pos : Pos} {m : Sem} (h : cConst c = some m) : PE X (.Constant c k pos) (tS C m) := by
  unfold cConst at h
  split at h <;> first | (cases h; first | exact s_int | exact s_bl | exact s_non | exact s_str) | cases h
theorem cCall_ok {x : Str} {p pos : Pos} {args : List Expr} {m : Sem} (ok : RecOk r) (o : XOk G X) (hK : C.K = X.K) (h : cCall r G x args = some m) : PE X (.Call (.Name x p) args [] pos) (tS C m) := by
  unfold cCall at h
  split at h
  · cases h
  · rename_i e es
    split at h
    · rename_i b hg
      obtain ⟨g, hb, h⟩ := Option.bind_eq_some_iff.mp h
      obtain ⟨ms, hr, h⟩ := Option.bind_eq_some_iff.mp h
      cases h
      obtain ⟨h1, h2, h3, h4⟩ := glOf_ok o hg
      obtain ⟨r1, _, r3⟩ := ok.R G X C _ _ o hK hr
      exact bi_callB o hK h1 h2 h3 h4 hb r1 r3
    · rename_i mm hg
      obtain ⟨ms, hr, h⟩ := Option.bind_eq_some_iff.mp h
      cases h
      obtain ⟨h1, h2, h3, h4⟩ := glOf_ok o hg
      obtain ⟨r1, _, r3⟩ := ok.R G X C _ _ o hK hr
      rw [List.any_cons, Bool.or_eq_false_iff] at r3
      exact s_callM (miG_ok mm) h1 h2 r1 h3 (star_cons r3.1) (star_plain r3.2)
    · rename_i n S hg
      split at h
      rotate_left
      · cases h
      rename_i hlen
      obtain ⟨ms, hr, h⟩ := Option.bind_eq_some_iff.mp h
      cases h
      obtain ⟨h1, ⟨k, f, fd, ps, g1, g2, g3, g4, g5⟩, h3, h4⟩ := glOf_ok o hg
      obtain ⟨r1, r2, r3⟩ := ok.R G X C _ _ o hK hr
      rw [List.any_cons, Bool.or_eq_false_iff] at r3
      exact s_call hK g4 g5 h1 g1 g2 g3 r1 hlen h3 (star_cons r3.1) (star_plain r3.2) fun env rs env' q => (r2 env rs env' q).trans hlen
    · rename_i n S hg
      split at h
      rotate_left
      · cases h
      rename_i y py
      split at h
      rotate_left
      · cases h
      rename_i hlen
      obtain ⟨j, hj, h⟩ := Option.bind_eq_some_iff.mp h
      obtain ⟨ms, hr, h⟩ := Option.bind_eq_some_iff.mp h
      cases h
      obtain ⟨h1, ⟨k, f, fd, ps, g1, g2, g3, g4, g5⟩, h3, h4⟩ := glOf_ok o hg
      obtain ⟨r1, r2, r3⟩ := ok.R G X C _ _ o hK hr
      obtain ⟨j1, j2, j3, j4⟩ := slotOf_ok o hj
      exact s_callI hK g4 g5 h1 g1 g2 g3 j1 j2 j3 j4 r1 h3 (star_cons rfl) (star_plain r3) fun env rs env' q => (congrArg (· + 1) (r2 env rs env' q)).trans hlen
    · cases h
theorem few_of {pos : Pos} {es : List Expr} (h : es.any isStar = false) (hl : es.length < 29) : ((backTo pos (starEach es X.env)).all (fun x => !x.1) && (backToKw pos (keywordEach [] X.env)).all (fun x => x.1.isSome)
      && decide (es.length + ([] : List Keyword).length + (if ([] : List Keyword).isEmpty then 0 else 1) < 30)) = true := by
  rw [star_all h]
  show (true && true && decide (es.length + 0 + 0 < 30)) = true
  rw [decide_eq_true (by omega)]; rfl
theorem cMeth_ok {x at_ : Str} {p apos pos : Pos} {args : List Expr} {m : Sem} (ok : RecOk r) (o : XOk G X) (hK : C.K = X.K) (h : cMeth r G x at_ apos pos args = some m) : PE X (.Call (.Attribute (.Name x p) at_ apos) args [] pos) (tS C m) := by
  unfold cMeth at h
  split at h
  rotate_left
  · cases h
  rename_i hline
  obtain ⟨j, hj, h'⟩ := Option.bind_eq_some_iff.mp h
  clear h
  replace h := h'
  clear h'
  obtain ⟨j1, j2, j3, j4⟩ := slotOf_ok o hj
  rcases args with _ | ⟨e, _ | ⟨e2, es⟩⟩
  rotate_left
  · dsimp only at h
    split at h
    · cases h
    rename_i hst
    have hst : isStar e = false := by cases q : isStar e; rfl; exact absurd q hst
    have hst2 : [e].any isStar = false := by rw [List.any_cons, hst]; rfl
    split at h
    · rename_i ha
      subst ha
      obtain ⟨m1, h1, h2⟩ := Option.bind_eq_some_iff.mp h
      cases h2
      exact s_append j1 j2 j3 j4 (ok.E G X C _ _ o hK h1) ⟨rfl, few_of hst2 (by show 1 < 29; decide), hline⟩ (star_cons hst) (star_plain rfl)
    · split at h
      · rename_i ha
        subst ha
        obtain ⟨m1, h1, h2⟩ := Option.bind_eq_some_iff.mp h
        cases h2
        exact s_extend j1 j2 j3 j4 (ok.E G X C _ _ o hK h1) ⟨rfl, few_of hst2 (by show 1 < 29; decide), hline⟩ (star_cons hst) (star_plain rfl)
      · cases h
  · cases h
  · dsimp only at h
    split at h
    · rename_i ha
      subst ha
      cases h
      exact s_pop j1 j2 j3 j4 ⟨rfl, few_of rfl (by decide), hline⟩
    · cases h
theorem cPart_ok {e : Option Expr} {p : SemP} (ok : RecOk r) (o : XOk G X) (hK : C.K = X.K) (h : cPart r G e = some p) : PO X e (tP C p) := by
  unfold cPart at h
  split at h
  · cases h; exact p_none
  · obtain ⟨m, h1, h⟩ := Option.bind_eq_some_iff.mp h
    cases h
    exact p_some (ok.E G X C _ _ o hK h1)
theorem cCmp_ok {a : Expr} {ops : List CmpOp} {bs : List Expr} {pos : Pos} {m : Sem} (ok : RecOk r) (o : XOk G X) (hK : C.K = X.K) (h : cCmp r G a ops bs = some m) : PE X (.Compare a ops bs pos) (tS C m) ∧ PT X (.Compare a ops bs pos) (tT C (sTB m)) := by
  unfold cCmp at h
  split at h
  · split at h
    · cases h
    rename_i hm
    obtain ⟨g, hg, h⟩ := Option.bind_eq_some_iff.mp h
    obtain ⟨m1, h1, h⟩ := Option.bind_eq_some_iff.mp h
    obtain ⟨m2, h2, h⟩ := Option.bind_eq_some_iff.mp h
    cases h
    exact ⟨s_cmp (cmpG_ok hK o.u hg) (ok.E G X C _ _ o hK h1) (ok.E G X C _ _ o hK h2) (Bool.eq_false_iff.mpr hm), s_tcmp (cmpG_ok hK o.u hg) (ok.E G X C _ _ o hK h1) (ok.E G X C _ _ o hK h2) (Bool.eq_false_iff.mpr hm)⟩
  · split at h
    · cases h
    rename_i hm
    obtain ⟨g, hg, h⟩ := Option.bind_eq_some_iff.mp h
    obtain ⟨g', hg', h⟩ := Option.bind_eq_some_iff.mp h
    obtain ⟨m1, h1, h⟩ := Option.bind_eq_some_iff.mp h
    obtain ⟨m2, h2, h⟩ := Option.bind_eq_some_iff.mp h
    obtain ⟨m3, h3, h⟩ := Option.bind_eq_some_iff.mp h
    cases h
    exact ⟨s_chain (cmpG_ok hK o.u hg) (cmpG_ok hK o.u hg') (ok.E G X C _ _ o hK h1) (ok.E G X C _ _ o hK h2) (ok.E G X C _ _ o hK h3) (Bool.eq_false_iff.mpr hm), s_tchain (cmpG_ok hK o.u hg) (cmpG_ok hK o.u hg') (ok.E G X C _ _ o hK h1) (ok.E G X C _ _ o hK h2) (ok.E G X C _ _ o hK h3) (Bool.eq_false_iff.mpr hm)⟩
  · cases h
theorem plainIx_of {b : Expr} (h : ∀ lo hi st p, b = .Slice lo hi st p → False) : PlainIx b := by
  intro a i
  cases b <;> first | rfl | exact (h _ _ _ _ rfl).elim
theorem stepE_ok {e : Expr} {m : Sem} (ok : RecOk r) (o : XOk G X) (hK : C.K = X.K) (h : stepE r G e = some m) : PE X e (tS C m) := by
  unfold stepE at h
  split at h
  · exact cName_ok o h
  · exact cConst_ok h
  · obtain ⟨g, hg, h⟩ := Option.bind_eq_some_iff.mp h
    obtain ⟨m1, h1, h⟩ := Option.bind_eq_some_iff.mp h
    obtain ⟨m2, h2, h⟩ := Option.bind_eq_some_iff.mp h
    cases h
    exact s_op (opG_ok hK hg) (ok.E G X C _ _ o hK h1) (ok.E G X C _ _ o hK h2)
  · split at h
    · obtain ⟨m1, h1, h⟩ := Option.bind_eq_some_iff.mp h
      cases h
      exact s_un b_neg (ok.E G X C _ _ o hK h1)
    · obtain ⟨m1, h1, h⟩ := Option.bind_eq_some_iff.mp h
      cases h
      exact s_notV hK (ok.E G X C _ _ o hK h1)
    · cases h
  · split at h
    · exact s_one (ok.E G X C _ _ o hK h)
    · split at h
      · obtain ⟨m1, h1, h⟩ := Option.bind_eq_some_iff.mp h
        obtain ⟨m2, h2, h⟩ := Option.bind_eq_some_iff.mp h
        cases h
        exact s_andV (ok.E G X C _ _ o hK h1) (ok.E G X C _ _ o hK h2)
      · obtain ⟨m1, h1, h⟩ := Option.bind_eq_some_iff.mp h
        obtain ⟨m2, h2, h⟩ := Option.bind_eq_some_iff.mp h
        cases h
        exact s_orV (ok.E G X C _ _ o hK h1) (ok.E G X C _ _ o hK h2)
    · cases h
  · exact (cCmp_ok ok o hK h).1
  · obtain ⟨mt, h0, h⟩ := Option.bind_eq_some_iff.mp h
    obtain ⟨m1, h1, h⟩ := Option.bind_eq_some_iff.mp h
    obtain ⟨m2, h2, h⟩ := Option.bind_eq_some_iff.mp h
    cases h
    exact s_if (ok.T G X C _ _ o hK h0) (ok.E G X C _ _ o hK h1) (ok.E G X C _ _ o hK h2)
  · obtain ⟨ms, h1, h⟩ := Option.bind_eq_some_iff.mp h
    cases h
    exact s_tup (ok.R G X C _ _ o hK h1).1
  · split at h
    · split at h
      · obtain ⟨m1, h1, h⟩ := Option.bind_eq_some_iff.mp h
        obtain ⟨p1, h2, h⟩ := Option.bind_eq_some_iff.mp h
        obtain ⟨p2, h3, h⟩ := Option.bind_eq_some_iff.mp h
        cases h
        exact s_sl hK (ok.E G X C _ _ o hK h1) (cPart_ok ok o hK h2) (cPart_ok ok o hK h3)
      · cases h
    · rename_i hns
      obtain ⟨m1, h1, h⟩ := Option.bind_eq_some_iff.mp h
      obtain ⟨m2, h2, h⟩ := Option.bind_eq_some_iff.mp h
      cases h
      refine s_ix hK o.u1 (ok.E G X C _ _ o hK h1) (ok.E G X C _ _ o hK h2) (plainIx_of hns)
  · split at h
    · split at h
      · split at h
        · rename_i hc
          cases h
          exact cCall_ok ok o hK hc
        · obtain ⟨m1, h1, h⟩ := Option.bind_eq_some_iff.mp h
          cases h
          exact s_give (ok.F G X C _ _ _ o hK h1)
      · split at h
        · exact cMeth_ok ok o hK h
        · cases h
      · cases h
    · cases h
  · obtain ⟨m1, h1, h⟩ := Option.bind_eq_some_iff.mp h
    cases h
    exact s_give (ok.F G X C _ _ _ o hK h1)
  · obtain ⟨m1, h1, h⟩ := Option.bind_eq_some_iff.mp h
    cases h
    exact s_give (ok.F G X C _ _ _ o hK h1)
  · obtain ⟨m1, h1, h⟩ := Option.bind_eq_some_iff.mp h
    cases h
    exact s_give (ok.F G X C _ _ _ o hK h1)
  · cases h
end NL

/-! NLE: the other arms; statements; whole texts -/
namespace NL
open PySem PySem.Spec L2
open PyProof.Rows hiding St

variable {G : Ga} {X : Cx} {C : Cf} {r : Rec}
theorem stepW_ok {e : Expr} {m : SemB} (ok : RecOk r) (o : XOk G X) (hK : C.K = X.K) (h : stepW r G e = some m) : PW X e (tT C m) := by
  unfold stepW at h
  split at h
  rotate_left
  · cases h
  rename_i op l pos
  split at h
  · cases op
    · exact w_and1 (ok.T G X C _ _ o hK h)
    · exact w_or1 (ok.T G X C _ _ o hK h)
  · split at h
    · obtain ⟨m1, h1, h⟩ := Option.bind_eq_some_iff.mp h
      obtain ⟨m2, h2, h⟩ := Option.bind_eq_some_iff.mp h
      cases h
      exact w_and (ok.T G X C _ _ o hK h1) (ok.W G X C _ _ o hK h2)
    · obtain ⟨m1, h1, h⟩ := Option.bind_eq_some_iff.mp h
      obtain ⟨m2, h2, h⟩ := Option.bind_eq_some_iff.mp h
      cases h
      exact w_or (ok.T G X C _ _ o hK h1) (ok.W G X C _ _ o hK h2)
  · cases h
theorem plainNot {op : UnaryOp} {a : Expr} {p : Pos} (h : op = .Not → False) : isPlainT (.UnaryOp op a p) = true := by
  cases op
  case Not => exact (h rfl).elim
  all_goals rfl
theorem plainE {e : Expr} (n1 : ∀ a b c, e = .BoolOp a b c → False) (n2 : ∀ a b c, e = .UnaryOp a b c → False) (n3 : ∀ a b c d, e = .Compare a b c d → False) (n4 : ∀ a b c d, e = .IfExp a b c d → False) : isPlainT e = true := by
  cases e
  case BoolOp => exact (n1 _ _ _ rfl).elim
  case UnaryOp => exact (n2 _ _ _ rfl).elim
  case Compare => exact (n3 _ _ _ _ rfl).elim
  case IfExp => exact (n4 _ _ _ _ rfl).elim
  all_goals rfl
theorem stepT_ok {e : Expr} {m : SemB} (ok : RecOk r) (o : XOk G X) (hK : C.K = X.K) (h : stepT r G e = some m) : PT X e (tT C m) := by
  unfold stepT at h
  split at h
  · exact (ok.W G X C _ _ o hK h).pt
  · split at h
    · obtain ⟨m1, h1, h⟩ := Option.bind_eq_some_iff.mp h
      cases h
      exact s_not (ok.T G X C _ _ o hK h1)
    · rename_i hn
      obtain ⟨m1, h1, h⟩ := Option.bind_eq_some_iff.mp h
      cases h
      exact s_truth hK (ok.E G X C _ _ o hK h1) (plainT (plainNot hn))
  · obtain ⟨m1, h1, h⟩ := Option.bind_eq_some_iff.mp h
    cases h
    exact (cCmp_ok ok o hK h1).2
  · cases h
  · rename_i n1 n2 n3 n4
    obtain ⟨m1, h1, h⟩ := Option.bind_eq_some_iff.mp h
    cases h
    refine s_truth hK (ok.E G X C _ _ o hK h1) (plainT (plainE n1 n2 n3 n4))
theorem stepR_ok {es : List Expr} {m : SemR} (ok : RecOk r) (o : XOk G X) (hK : C.K = X.K) (h : stepR r G es = some m) : PA X es (tR C m) ∧ rlen m es.length ∧ es.any isStar = false := by
  unfold stepR at h
  split at h
  · cases h
    refine ⟨r_nil, fun env rs env' e => ?_, rfl⟩
    cases e; rfl
  · split at h
    · cases h
    rename_i hst
    obtain ⟨m1, h1, h⟩ := Option.bind_eq_some_iff.mp h
    obtain ⟨m2, h2, h⟩ := Option.bind_eq_some_iff.mp h
    cases h
    obtain ⟨r1, r2, r3⟩ := ok.R G X C _ _ o hK h2
    have hst := Bool.eq_false_iff.mpr hst
    refine ⟨r_cons (ok.E G X C _ _ o hK h1) r1 (star_cons hst), fun env rs env' e => ?_, by rw [List.any_cons, hst, r3]; rfl⟩
    unfold sCons at e
    obtain ⟨x, _, e⟩ := Option.bind_eq_some_iff.mp e
    obtain ⟨y, g, e⟩ := Option.bind_eq_some_iff.mp e
    cases e
    exact congrArg (· + 1) (r2 _ _ _ g)
theorem blk_ok {scope : Scope} {own : List (Str × Nat)} (o : XOk G X) (b : BlkOk X.N X.env.scope scope own) (s : Shared) (H : Hp) (A : Addr) (cl : List (Str × Addr)) (fp : List Addr) :
    XOk (blkG G scope) (X.blk s H scope (compEnvC scope cl A X.env) fp) where
  N := o.N
  sc := by show relS scope X.env.scope = relS scope G.sc; rw [o.sc]
  nd := o.nd
  calm := o.calm
  fnk := fun _ h => h
  xe := rfl
  kind := b.kind
  u := o.u
  g := fun x ge h => by
    have q := o.g x ge h
    cases ge <;> exact q
theorem cIfs_ok {ifs : List Expr} {tt : SemB} {G' : Ga} (h : cIfs r G' ifs = some tt) (ok : RecOk r) {X' : Cx} (o : XOk G' X') : PTs X' ifs (tTx X'.K tt) := by
  unfold cIfs at h
  split at h
  · cases h; exact pts_yes
  · exact pts_x fun C' hC => ok.T G' X' C' _ _ o hC h
  · cases h
theorem cLc_ok {elt : Expr} {gens : List Comprehension} {scope : Scope} {pos : Pos} {m : SemF} (ok : RecOk r) (o : XOk G X) (hK : C.K = X.K) (h : cLc r G elt gens scope = some m) :
    PE X (.ListComp elt gens scope pos) (tF C m) ∧ ∀ (i : Nat) (y : Str) (py spos : Pos), X.N[i]? = some y → X.env.scope.names.lookup y = some .local → swapsWith (.ListComp elt gens scope pos) (some (.Name y py)) spos.line X.env = pure true →
      PS X (.Assign [.Name y py] (.ListComp elt gens scope pos) spos) (tSt C (sOwn m i)) := by
  unfold cLc at h
  split at h
  rotate_left
  · cases h
  split at h
  rotate_left
  · cases h
  rename_i hc
  rw [Bool.and_eq_true] at hc
  obtain ⟨hc1, hc2⟩ := hc
  obtain ⟨mi, h1, h⟩ := Option.bind_eq_some_iff.mp h
  obtain ⟨g, h2, h⟩ := Option.bind_eq_some_iff.mp h
  obtain ⟨tt, h3, h⟩ := Option.bind_eq_some_iff.mp h
  obtain ⟨te, h4, h⟩ := Option.bind_eq_some_iff.mp h
  cases h
  have hb : BlkOk X.N X.env.scope scope (ownSl G scope) := by rw [o.N, o.sc]; exact blkOk_by hc2
  have hg := fun (s : Shared) (H : Hp) (A : Addr) (cl : List (Str × Addr)) (fp : List Addr) (C' : Cf) (hC : C'.K = X.K) => ok.G _ _ C' _ _ _ (blk_ok o hb s H A cl fp) hC h2
  have ht := fun (s : Shared) (H : Hp) (A : Addr) (cl : List (Str × Addr)) (fp : List Addr) => cIfs_ok h3 ok (blk_ok o hb s H A cl fp)
  have he := fun (s : Shared) (H : Hp) (A : Addr) (cl : List (Str × Addr)) (fp : List Addr) (C' : Cf) (hC : C'.K = X.K) => ok.E _ _ C' _ _ (blk_ok o hb s H A cl fp) hC h4
  exact ⟨f_lc hK o.calm o.nd (ok.I G X C _ _ _ o hK h1) hb hg ht he (folded hc1), fun i y py spos a b c => ps_lc (D := { nx := fun _ _ => True, rt := fun _ _ => True }) hK o.calm o.nd a b c (ok.I G X C _ _ _ o hK h1) hb hg ht he (folded hc1)⟩
theorem stepF_ok {dt : Bool} {e : Expr} {m : SemF} (ok : RecOk r) (o : XOk G X) (hK : C.K = X.K) (h : stepF r G dt e = some m) : PE X e (tF C m) := by
  unfold stepF at h
  split at h
  · obtain ⟨ms, h1, h⟩ := Option.bind_eq_some_iff.mp h
    cases h
    exact f_lst (ok.R G X C _ _ o hK h1).1
  · split at h
    · cases h
      cases dt
      · exact f_dict
      · exact f_dictT
    · cases h
  · exact (cLc_ok ok o hK h).1
  · split at h
    rotate_left
    · cases h
    split at h
    · obtain ⟨m1, h1, h⟩ := Option.bind_eq_some_iff.mp h
      obtain ⟨m2, h2, h⟩ := Option.bind_eq_some_iff.mp h
      cases h
      exact f_op o_catL (ok.E G X C _ _ o hK h1) (ok.E G X C _ _ o hK h2)
    · obtain ⟨m1, h1, h⟩ := Option.bind_eq_some_iff.mp h
      obtain ⟨m2, h2, h⟩ := Option.bind_eq_some_iff.mp h
      cases h
      exact f_op o_repL (ok.E G X C _ _ o hK h1) (ok.E G X C _ _ o hK h2)
    · cases h
  · split at h
    rotate_left
    · cases h
    split at h
    rotate_left
    · cases h
    split at h
    rotate_left
    · cases h
    obtain ⟨m1, h1, h⟩ := Option.bind_eq_some_iff.mp h
    obtain ⟨p1, h2, h⟩ := Option.bind_eq_some_iff.mp h
    obtain ⟨p2, h3, h⟩ := Option.bind_eq_some_iff.mp h
    cases h
    exact f_sl hK (ok.E G X C _ _ o hK h1) (cPart_ok ok o hK h2) (cPart_ok ok o hK h3)
  · split at h
    rotate_left
    · cases h
    split at h
    rotate_left
    · cases h
    split at h
    · cases h
    split at h
    · rename_i hg
      split at h
      rotate_left
      · cases h
      obtain ⟨ms, h1, h⟩ := Option.bind_eq_some_iff.mp h
      cases h
      obtain ⟨g1, ⟨g2, hx⟩, _, _⟩ := glOf_ok o hg
      cases hx
      obtain ⟨r1, r2, r3⟩ := ok.R G X C _ _ o hK h1
      rw [List.any_cons, Bool.or_eq_false_iff] at r3
      exact f_list hK g1 g2 rfl r1 (star_cons r3.1) (star_plain r3.2)
    · rename_i n S hg
      split at h
      rotate_left
      · cases h
      rename_i hlen
      obtain ⟨ms, h1, h⟩ := Option.bind_eq_some_iff.mp h
      cases h
      obtain ⟨h1', ⟨k, f, fd, ps, g1, g2, g3, g4, g5⟩, h3, h4⟩ := glOf_ok o hg
      obtain ⟨r1, r2, r3⟩ := ok.R G X C _ _ o hK h1
      rw [List.any_cons, Bool.or_eq_false_iff] at r3
      exact f_call hK g4 g5 h1' g1 g2 g3 r1 hlen h3 (star_cons r3.1) (star_plain r3.2) fun env rs env' q => (r2 env rs env' q).trans hlen
    · cases h
  · cases h
theorem range_ok {tg : Expr} {args : List Expr} {p pos : Pos} {m : SemI} (ok : RecOk r) (o : XOk G X) (hK : C.K = X.K) (g1 : Gl X "range") (g2 : X.mg "range" = none)
    (h : ((r.R G args).bind fun ms => if decide (args.length = 1) || decide (args.length = 2) || decide (args.length = 3) then some (sRangeI ms) else none) = some m) : PI X tg (.Call (.Name "range" p) args [] pos) (tI C m) := by
  obtain ⟨ms, h1, h⟩ := Option.bind_eq_some_iff.mp h
  obtain ⟨r1, r2, r3⟩ := ok.R G X C _ _ o hK h1
  split at h
  rotate_left
  · cases h
  cases h
  rename_i hl
  rcases args with _ | ⟨a, _ | ⟨b, _ | ⟨c, _ | ⟨d, es⟩⟩⟩⟩
  · cases hl
  · rw [List.any_cons, Bool.or_eq_false_iff] at r3
    exact i_range1 g1 g2 r1 r2 (star_cons r3.1)
  · rw [List.any_cons, List.any_cons, Bool.or_eq_false_iff, Bool.or_eq_false_iff] at r3
    exact i_range2 g1 g2 r1 r2 (by rw [star_cons r3.1, star_cons r3.2.1]; rfl) (star_cons r3.2.1)
  · rw [List.any_cons, Bool.or_eq_false_iff] at r3
    exact i_range3 g1 g2 r1 r2 (star_cons r3.1) (star_plain r3.2)
  · exfalso
    simp at hl
theorem stepI_ok {tg e : Expr} {m : SemI} (ok : RecOk r) (o : XOk G X) (hK : C.K = X.K) (h : stepI r G tg e = some m) : PI X tg e (tI C m) := by
  have seq : ∀ {e : Expr} {m : SemI}, ((r.E G e).bind fun m => some (sSeqI m)) = some m → PI X tg e (tI C m) := fun h => by
    obtain ⟨m1, h1, h⟩ := Option.bind_eq_some_iff.mp h
    cases h
    exact i_seq hK (ok.E G X C _ _ o hK h1)
  unfold stepI at h
  split at h
  rotate_left
  · exact seq h
  split at h
  rotate_left
  · cases h
  split at h
  rotate_left
  · exact seq h
  split at h
  · rename_i hg
    obtain ⟨g1, ⟨g2, hx⟩, _, _⟩ := glOf_ok o hg
    cases hx
    exact range_ok ok o hK g1 g2 h
  · rename_i hg
    obtain ⟨g1, ⟨g2, hx⟩, _, _⟩ := glOf_ok o hg
    cases hx
    split at h
    rotate_left
    · cases h
    split at h
    rotate_left
    · cases h
    obtain ⟨ms, h1, h⟩ := Option.bind_eq_some_iff.mp h
    cases h
    obtain ⟨r1, r2, r3⟩ := ok.R G X C _ _ o hK h1
    rw [List.any_cons, Bool.or_eq_false_iff] at r3
    exact i_enum hK g1 g2 r1 (star_cons r3.1)
  · rename_i hg
    obtain ⟨g1, ⟨g2, hx⟩, _, _⟩ := glOf_ok o hg
    cases hx
    split at h
    rotate_left
    · cases h
    split at h
    rotate_left
    · cases h
    obtain ⟨ms, h1, h⟩ := Option.bind_eq_some_iff.mp h
    cases h
    obtain ⟨r1, r2, r3⟩ := ok.R G X C _ _ o hK h1
    rw [List.any_cons, Bool.or_eq_false_iff] at r3
    exact i_zip hK g1 g2 r1 (star_cons r3.1) (star_plain r3.2)
  · exact seq h
theorem stepG_ok {vs : List Nat} {e : Expr} {m : SemG} (ok : RecOk r) (o : XOk G X) (hK : C.K = X.K) (h : stepG r G vs e = some m) : PG X e (tG C vs m) := by
  unfold stepG at h
  split at h
  · obtain ⟨i, h1, h⟩ := Option.bind_eq_some_iff.mp h
    split at h
    rotate_left
    · cases h
    rename_i hv
    cases h
    obtain ⟨s1, s2, s3⟩ := stOf_ok o h1
    exact g_name (List.contains_iff_mem.mp hv) o.nd s1 s2 s3
  · obtain ⟨gs, h1, h⟩ := Option.bind_eq_some_iff.mp h
    cases h
    obtain ⟨g1, g2⟩ := ok.Gs G X C _ _ _ o hK h1
    obtain ⟨l1, l2⟩ := asg_len (env := X.env) g2
    exact g_tup hK o.calm g1 l1 l2
  · split at h
    rotate_left
    · cases h
    split at h
    rotate_left
    · cases h
    rename_i ix _ _ _ _ hp
    obtain ⟨j, h1, h⟩ := Option.bind_eq_some_iff.mp h
    obtain ⟨m1, h2, h⟩ := Option.bind_eq_some_iff.mp h
    cases h
    obtain ⟨s1, s2, s3, s4⟩ := slotOf_ok o h1
    refine g_set o.u1 s1 s2 s3 s4 (ok.E G X C _ _ o hK h2) fun v => ?_
    cases ix <;> first | (cases hp; done) | rfl
  · cases h
theorem stepGs_ok {vs : List Nat} {es : List Expr} {m : SemGs} (ok : RecOk r) (o : XOk G X) (hK : C.K = X.K) (h : stepGs r G vs es = some m) : PGs X es (tGs C vs m) ∧ es.any isStar = false := by
  unfold stepGs at h
  split at h
  · cases h; exact ⟨gs_nil, rfl⟩
  · split at h
    · cases h
    rename_i hst
    obtain ⟨m1, h1, h⟩ := Option.bind_eq_some_iff.mp h
    obtain ⟨m2, h2, h⟩ := Option.bind_eq_some_iff.mp h
    cases h
    have hst := Bool.eq_false_iff.mpr hst
    obtain ⟨g1, g2⟩ := ok.Gs G X C _ _ _ o hK h2
    exact ⟨gs_cons (ok.G G X C _ _ _ o hK h1) g1 (by rw [asg_cons hst]; rfl), by rw [List.any_cons, hst, g2]; rfl⟩
/-! ### statements -/
theorem swV_ok {e : Expr} {x : Str} {px : Pos} {line : Nat} (o : XOk G X) (hn : noSD e = true) : swapsWith e (some (.Name x px)) line X.env = pure (swV (fun y => G.sc.names.lookup y) e x px.line) := by
  cases e <;> first | (cases hn; done) | rfl | skip
  unfold swapsWith swV
  dsimp only
  have hbk : (X.env.blockKind == ScopeKind.function) = true := by unfold Env.blockKind; rw [o.kind]; rfl
  rw [hbk]
  show pure (true && (X.env.scope.names.lookup x == _) && _ && _) = _
  rw [o.sc, Bool.true_and]
theorem asg1 {tg : Expr} (h : okTg tg = true) : (assignEach [tg] X.env).map (·.2) = [assign tg X.env] := by
  cases tg <;> first | (cases h; done) | rfl
theorem noSw {tg e : Expr} {line : Nat} (h : okTg tg = true) (hn : noSD e = true) : swapsWithSole [tg] e line X.env = pure false := by
  cases tg <;> first | (cases h; done) | skip
  all_goals (cases e <;> first | (cases hn; done) | rfl)
theorem cAsgN_ok {x : Str} {px spos : Pos} {e : Expr} {m : SemS} (ok : RecOk r) (o : XOk G X) (hK : C.K = X.K) (h : cAsgN r G x px e spos = some m) : PS X (.Assign [.Name x px] e spos) (tSt C m) := by
  unfold cAsgN at h
  obtain ⟨i, h1, h⟩ := Option.bind_eq_some_iff.mp h
  obtain ⟨s1, s2, s3⟩ := stOf_ok o h1
  split at h
  · rename_i mf hf
    split at h
    · cases h
    rename_i hsw
    split at h
    rotate_left
    · cases h
    rename_i hn
    cases h
    exact st_own o.nd s1 s2 (ok.F G X C _ _ _ o hK hf) ((swV_ok o hn).trans (by rw [Bool.eq_false_iff.mpr hsw])) s3
  · split at h
    rotate_left
    · cases h
    rename_i hn
    rw [Bool.and_eq_true] at hn
    obtain ⟨n1, n2⟩ := hn
    obtain ⟨m1, h2, h⟩ := Option.bind_eq_some_iff.mp h
    cases h
    have hv : i ∈ List.range X.N.length := by
      rw [List.mem_range]
      exact (List.getElem?_eq_some_iff.mp s1).1
    refine st_asg (vs := List.range X.N.length) (ok.E G X C _ _ o hK h2) (g_name hv o.nd s1 s2 s3) ((swV_ok (line := spos.line) o n1).trans ?_) ?_ rfl
    · cases e <;> first | (cases n2; done) | rfl
    · rfl
theorem cAsgT_ok {tg e : Expr} {spos : Pos} {m : SemS} (ok : RecOk r) (o : XOk G X) (hK : C.K = X.K) (hw : swappedStores [tg] e X.env = pure none) (h : cAsgT r G tg e = some m) : PS X (.Assign [tg] e spos) (tSt C m) := by
  unfold cAsgT at h
  split at h
  rotate_left
  · cases h
  rename_i hn
  rw [Bool.and_eq_true] at hn
  obtain ⟨n1, n2⟩ := hn
  obtain ⟨m1, h1, h⟩ := Option.bind_eq_some_iff.mp h
  obtain ⟨g, h2, h⟩ := Option.bind_eq_some_iff.mp h
  cases h
  exact st_asg (ok.E G X C _ _ o hK h1) (ok.G G X C _ _ _ o hK h2) (noSw n1 n2) hw (asg1 n1)
theorem isLocal_inv {k : Option NameKind} (h : isLocal k = true) : k = some .local := by
  cases k with
  | none => cases h
  | some k => cases k <;> first | rfl | cases h
theorem cPar_ok {ts vs : List Expr} {kt k2 : Nat} {pt p2 spos : Pos} {m : SemS} (ok : RecOk r) (o : XOk G X) (hK : C.K = X.K) (h : cPar r G ts vs (.Tuple ts kt pt) (.Tuple vs k2 p2) = some m) :
    PS X (.Assign [.Tuple ts kt pt] (.Tuple vs k2 p2) spos) (tSt C m) := by
  have hk : (fun y => G.sc.names.lookup y) = X.env.kindOf := by funext y; show _ = X.env.scope.names.lookup y; rw [o.sc]
  unfold cPar at h
  rw [hk] at h
  split at h
  · rename_i q
    exact cAsgT_ok ok o hK (swR_ok o.kind q) h
  · rename_i x y q
    have hw := fun k k2 p p2 => swR_ok (k := k) (k2 := k2) (p := p) (p2 := p2) o.kind q
    split at h
    rotate_left
    · cases h
    split at h
    rotate_left
    · cases h
    rename_i hc
    obtain ⟨rfl, rfl, hx, hy⟩ : _ ∧ _ ∧ _ ∧ _ := by
      simp only [Bool.and_eq_true, decide_eq_true_eq] at hc
      exact ⟨hc.1.1.1, hc.1.1.2, hc.1.2, hc.2⟩
    obtain ⟨i, h1, h⟩ := Option.bind_eq_some_iff.mp h
    obtain ⟨j, h2, h⟩ := Option.bind_eq_some_iff.mp h
    split at h
    · cases h
    rename_i hij
    obtain ⟨_, i2⟩ := idx_ok _ _ _ _ h1
    obtain ⟨_, j2⟩ := idx_ok _ _ _ _ h2
    have i3 := i2
    rw [← o.N, Nat.sub_zero] at i3
    have j3 := j2
    rw [← o.N, Nat.sub_zero] at j3
    have hx' := isLocal_inv hx
    rw [← o.sc] at hx'
    have hy' := isLocal_inv hy
    rw [← o.sc] at hy'
    unfold cPar2 at h
    split at h
    · cases h
    rename_i hst
    have hst := Bool.eq_false_iff.mpr hst
    rw [Bool.or_eq_false_iff] at hst
    obtain ⟨t1, t2⟩ := hst
    split at h
    · rename_i q1
      split at h
      · rename_i q2
        cases h
        exact st_parFF hK o.calm o.nd i3 j3 hij hx' hy' (ok.F G X C _ _ _ o hK q1) (fun C' hC => ok.F G X C' _ _ _ o hC q2) (star_cons t1) (star_cons t2) (hw _ _ _ _) rfl
      · obtain ⟨m2, h3, h⟩ := Option.bind_eq_some_iff.mp h
        cases h
        exact st_parFV hK o.calm o.nd i3 j3 hij hx' hy' (ok.F G X C _ _ _ o hK q1) (fun C' hC => ok.E G X C' _ _ o hC h3) (star_cons t1) (star_cons t2) (hw _ _ _ _) rfl
    · split at h
      · rename_i q2
        obtain ⟨m1, h3, h⟩ := Option.bind_eq_some_iff.mp h
        cases h
        exact st_parVF hK o.calm o.nd i3 j3 hij hx' hy' (ok.E G X C _ _ o hK h3) (ok.F G X C _ _ _ o hK q2) (star_cons t1) (star_cons t2) (hw _ _ _ _) rfl
      · obtain ⟨ms, h3, h⟩ := Option.bind_eq_some_iff.mp h
        cases h
        exact st_par (vs := []) o.calm o.nd i3 j3 hij hx' hy' (ok.R G X C _ _ o hK h3).1 (hw _ _ _ _) rfl
  · cases h
theorem swNotTup {e : Expr} {ts : List Expr} {k : Nat} {p : Pos} (h : ∀ a b c, e = .Tuple a b c → False) : swappedStores [.Tuple ts k p] e X.env = pure none := by
  cases e
  case Tuple => exact (h _ _ _ rfl).elim
  all_goals rfl
theorem swNone {e : Expr} {line : Nat} (n1 : noSD e = true) (n2 : (!isLc e) = true) : swapsWith e none line X.env = pure false := by
  cases e <;> first | (cases n1; done) | (cases n2; done) | rfl
theorem stepS_ok {st : Stmt} {m : SemS} (ok : RecOk r) (o : XOk G X) (hK : C.K = X.K) (h : stepS r G st = some m) : PS X st (tSt C m) := by
  unfold stepS at h
  split at h
  · split at h
    rotate_left
    · cases h
    split at h
    · split at h
      · split at h
        · rename_i q
          cases h
          unfold cAsgL at q
          obtain ⟨i, h1, q⟩ := Option.bind_eq_some_iff.mp q
          split at q
          rotate_left
          · cases q
          rename_i hsw
          obtain ⟨mf, h2, q⟩ := Option.bind_eq_some_iff.mp q
          cases q
          obtain ⟨s1, s2, s3⟩ := stOf_ok o h1
          refine (cLc_ok ok o hK h2).2 _ _ _ _ s1 ?_ ((swV_ok o rfl).trans (by rw [hsw]))
          unfold swV at hsw
          simp only [Bool.and_eq_true] at hsw
          rw [o.sc]
          exact isLocal_inv (by have := hsw.1.1; rw [eq_of_beq this]; rfl)
        · exact cAsgN_ok ok o hK h
      · exact cAsgN_ok ok o hK h
    · split at h
      · exact cPar_ok ok o hK h
      · rename_i hnt
        exact cAsgT_ok ok o hK (swNotTup hnt) h
    · exact cAsgT_ok ok o hK rfl h
    · cases h
  · split at h
    · cases h; exact st_retN
    · obtain ⟨m1, h1, h⟩ := Option.bind_eq_some_iff.mp h
      cases h
      exact st_ret (ok.E G X C _ _ o hK h1)
  · split at h
    · split at h
      · cases h; exact st_doc
      · cases h
    · split at h
      rotate_left
      · cases h
      rename_i hn
      rw [Bool.and_eq_true] at hn
      obtain ⟨n1, n2⟩ := hn
      obtain ⟨m1, h1, h⟩ := Option.bind_eq_some_iff.mp h
      cases h
      exact st_expr (ok.E G X C _ _ o hK h1) (swNone n1 n2)
  · obtain ⟨m1, h1, h⟩ := Option.bind_eq_some_iff.mp h
    obtain ⟨m2, h2, h⟩ := Option.bind_eq_some_iff.mp h
    obtain ⟨m3, h3, h⟩ := Option.bind_eq_some_iff.mp h
    cases h
    exact st_if (ok.T G X C _ _ o hK h1) (ok.B G X C _ _ o hK h2) (ok.B G X C _ _ o hK h3)
  · split at h
    rotate_left
    · cases h
    obtain ⟨m1, h1, h⟩ := Option.bind_eq_some_iff.mp h
    obtain ⟨m2, h2, h⟩ := Option.bind_eq_some_iff.mp h
    cases h
    exact st_while o.pas (ok.T G X C _ _ o hK h1) (ok.B G X C _ _ o hK h2)
  · split at h
    rotate_left
    · cases h
    split at h
    rotate_left
    · cases h
    rename_i hn
    obtain ⟨m1, h1, h⟩ := Option.bind_eq_some_iff.mp h
    obtain ⟨m2, h2, h⟩ := Option.bind_eq_some_iff.mp h
    obtain ⟨m3, h3, h⟩ := Option.bind_eq_some_iff.mp h
    cases h
    exact st_for o.pas o.calm (ok.I G X C _ _ _ o hK h1) (ok.G G X C _ _ _ o hK h2) (ok.B G X C _ _ o hK h3) (folded hn)
  · cases h; exact st_break
  · cases h; exact st_cont
  · cases h; exact st_pass
  · cases h
theorem stepB_ok {l : List Stmt} {m : SemS} (ok : RecOk r) (o : XOk G X) (hK : C.K = X.K) (h : stepB r G l = some m) : PSs X l (tSt C m) := by
  unfold stepB at h
  split at h
  · cases h; exact sts_nil
  · exact sts_one (ok.S G X C _ _ o hK h)
  · obtain ⟨m1, h1, h⟩ := Option.bind_eq_some_iff.mp h
    obtain ⟨m2, h2, h⟩ := Option.bind_eq_some_iff.mp h
    cases h
    exact sts_cons (ok.S G X C _ _ o hK h1) (ok.B G X C _ _ o hK h2)
theorem recN_ok : ∀ n, RecOk (recN n)
  | 0 => ⟨fun _ _ _ _ _ _ _ h => (nomatch h), fun _ _ _ _ _ _ _ h => (nomatch h), fun _ _ _ _ _ _ _ h => (nomatch h), fun _ _ _ _ _ _ _ h => (nomatch h), fun _ _ _ _ _ _ _ _ h => (nomatch h), fun _ _ _ _ _ _ _ _ h => (nomatch h), fun _ _ _ _ _ _ _ _ h => (nomatch h), fun _ _ _ _ _ _ _ _ h => (nomatch h), fun _ _ _ _ _ _ _ h => (nomatch h), fun _ _ _ _ _ _ _ h => (nomatch h)⟩
  | n + 1 => ⟨fun _ _ _ _ _ o hK h => stepE_ok (recN_ok n) o hK h, fun _ _ _ _ _ o hK h => stepT_ok (recN_ok n) o hK h, fun _ _ _ _ _ o hK h => stepW_ok (recN_ok n) o hK h, fun _ _ _ _ _ o hK h => stepR_ok (recN_ok n) o hK h, fun _ _ _ _ _ _ o hK h => stepF_ok (recN_ok n) o hK h, fun _ _ _ _ _ _ o hK h => stepI_ok (recN_ok n) o hK h, fun _ _ _ _ _ _ o hK h => stepG_ok (recN_ok n) o hK h, fun _ _ _ _ _ _ o hK h => stepGs_ok (recN_ok n) o hK h, fun _ _ _ _ _ o hK h => stepS_ok (recN_ok n) o hK h, fun _ _ _ _ _ o hK h => stepB_ok (recN_ok n) o hK h⟩
end NL

/-! NLF: a def from its text -/
namespace NL
open PySem PySem.Spec L2
open PyProof.Rows hiding St

section
variable {P : Program} {w : World} {K : Frag} {mg : Str → Option Value} {base : Heap}
/-- what a global name is, where k further calls are allowed -/
def GO (P : Program) (w : World) (K : Frag) (mg : Str → Option Value) (base : Heap) (k : Nat) (x : Str) : GE → Prop
  | .bi b => mg x = none ∧ x = b.name
  | .math m => mg x = some (.builtin m.id)
  | .cint i => ∃ t, mg x = some (.int i t)
  | .cstr z => ∃ t, mg x = some (.str z t)
  | .fn n S => ∃ k' f fd ps, k' ≤ k ∧ mg x = some (.ref f) ∧ PySem.W.keepIn K (.ref f) = true ∧ Binds K fd ps [] ∧ FnOk P w K mg base CX0 k' f fd ps (spS K n S)
  | .fi n S => ∃ k' f fd ps, k' ≤ k ∧ mg x = some (.ref f) ∧ PySem.W.keepIn K (.ref f) = true ∧ Binds K fd ps [] ∧ FnOk P w K mg base CX0 k' f fd ps (spI K n S)
  | .ff n S => ∃ k' f fd ps, k' ≤ k ∧ mg x = some (.ref f) ∧ PySem.W.keepIn K (.ref f) = true ∧ Binds K fd ps [] ∧ FnOk P w K mg base CX0 k' f fd ps (spR K n S)
def GAll (P : Program) (w : World) (K : Frag) (mg : Str → Option Value) (base : Heap) (k : Nat) : List (Str × GE) → Prop
  | [] => True
  | y :: l => GO P w K mg base k y.1 y.2 ∧ GAll P w K mg base k l
theorem GAll.mem {k : Nat} : ∀ {l : List (Str × GE)} {x : Str} {ge : GE}, GAll P w K mg base k l → (x, ge) ∈ l → GO P w K mg base k x ge
  | y :: l, x, ge, h, m => by
    rcases List.mem_cons.mp m with e | m
    · cases e; exact h.1
    · exact GAll.mem h.2 m
/-- a def of the text, and its name -/
structure DF (K : Frag) (mg : Str → Option Value) (x : Str) (st : Stmt) (ps : List Str) (f : Addr) (fd : FuncData) : Prop where
  F : Fun K x x st f fd
  m : mg x = some (.ref f)
  b : Binds K fd ps []
theorem DF.go {x : Str} {st : Stmt} {ps : List Str} {f : Addr} {fd : FuncData} {k k' n : Nat} {S : FnS} (D : DF K mg x st ps f fd) (h : FnOk P w K mg base CX0 k' f fd ps (spS K n S)) (hk : k' ≤ k) : GO P w K mg base k x (.fn n S) := ⟨k', f, fd, ps, hk, D.m, D.F.kp, D.b, h⟩
theorem DF.gi {x : Str} {st : Stmt} {ps : List Str} {f : Addr} {fd : FuncData} {k k' n : Nat} {S : FnI} (D : DF K mg x st ps f fd) (h : FnOk P w K mg base CX0 k' f fd ps (spI K n S)) (hk : k' ≤ k) : GO P w K mg base k x (.fi n S) := ⟨k', f, fd, ps, hk, D.m, D.F.kp, D.b, h⟩
theorem DF.gf {x : Str} {st : Stmt} {ps : List Str} {f : Addr} {fd : FuncData} {k k' n : Nat} {S : FnS} (D : DF K mg x st ps f fd) (h : FnOk P w K mg base CX0 k' f fd ps (spR K n S)) (hk : k' ≤ k) : GO P w K mg base k x (.ff n S) := ⟨k', f, fd, ps, hk, D.m, D.F.kp, D.b, h⟩
theorem ctx_ok {qual : Str} {st : Stmt} {f : Addr} {N ps : List Str} {k : Nat} {G : Ga} (S : FnScope N ps (defScope st)) (hN : G.N = N) (hsc : G.sc = defScope st) (hg : GAll P w K mg base k G.g)
    (cdv : Value) (A : Around) (outer : List PySem.Env) (s : Shared) (H : Hp) (E : XK) (hr : Room k (A.deeper (envOfC qual (defScope st) s.heap.objs.size f cdv))) : XOk G (cxOf CX0 P w K mg base N qual (defScope st) f cdv A outer s H E).nox := by
  refine ⟨hN.symm, hsc.symm, S.nd, rfl, fun _ _ => rfl, rfl, S.kind, ?_, fun x ge m => ?_⟩
  · have := hr.un; show (A.deeper _).units + 65 < cLine; omega
  · have q := hg.mem m
    cases ge with
    | bi b => exact q
    | math m => exact q
    | cint i => exact q
    | cstr z => exact q
    | fn n S => obtain ⟨k', f, fd, ps, hk, a, b, c, d⟩ := q; exact ⟨k', f, fd, ps, a, b, c, d, hr.mono hk⟩
    | fi n S => obtain ⟨k', f, fd, ps, hk, a, b, c, d⟩ := q; exact ⟨k', f, fd, ps, a, b, c, d, hr.mono hk⟩
    | ff n S => obtain ⟨k', f, fd, ps, hk, a, b, c, d⟩ := q; exact ⟨k', f, fd, ps, a, b, c, d, hr.mono hk⟩
theorem def_s {x : Str} {st : Stmt} {f : Addr} {fd : FuncData} {ps : List Str} {k q : Nat} {b : SemS} {G : Ga} (D : DF K mg x st ps f fd) (S : FnScope G.N ps (defScope st)) (hsc : G.sc = defScope st) (hfn : G.fnk = fun _ => true) (h : (recN q).B G (defBody st) = some b)
    (hg : GAll P w K mg base k G.g) : FnOk P w K mg base CX0 (k + 1) f fd ps (spS K ps.length (runF G.N.length b)) :=
  fn_s D.F S rfl fun cdv A outer s H E hr C hC => (recN_ok q).B G _ C _ _ (ctx_ok S rfl hsc hg cdv A outer s H E hr) hC h
theorem def_i {x : Str} {st : Stmt} {f : Addr} {fd : FuncData} {ps : List Str} {k q : Nat} {b : SemS} {G : Ga} (D : DF K mg x st ps f fd) (S : FnScope G.N ps (defScope st)) (hsc : G.sc = defScope st) (hfn : G.fnk = fun _ => true) (h : (recN q).B G (defBody st) = some b)
    (hg : GAll P w K mg base k G.g) : FnOk P w K mg base CX0 (k + 1) f fd ps (spI K ps.length (runI G.N.length b)) :=
  fn_i D.F S rfl fun cdv A outer s H E hr C hC => (recN_ok q).B G _ C _ _ (ctx_ok S rfl hsc hg cdv A outer s H E hr) hC h
theorem def_r {x : Str} {st : Stmt} {f : Addr} {fd : FuncData} {ps : List Str} {k q : Nat} {m : SemF} {G : Ga} {e : Expr} {pos : Pos} (D : DF K mg x st ps f fd) (S : FnScope G.N ps (defScope st)) (hsc : G.sc = defScope st) (hfn : G.fnk = fun _ => true) (hb : defBody st = [.Return (some e) pos]) (h : (recN q).F G false e = some m)
    (hg : GAll P w K mg base k G.g) : FnOk P w K mg base CX0 (k + 1) f fd ps (spR K ps.length (runR G.N.length m)) :=
  fn_r D.F S rfl hb fun cdv A outer s H E hr C hC => (recN_ok q).F G _ C _ _ _ (ctx_ok S rfl hsc hg cdv A outer s H E hr) hC h
theorem fn_none {f : Addr} {fd : FuncData} {ps : List Str} {k n : Nat} : FnOk P w K mg base CX0 k f fd ps (spS K n fun _ => none) := by
  have no : ∀ vs H Q E, ¬ spS K n (fun _ => none) vs H Q E := fun vs H Q E h => by
    obtain ⟨_, _, _, _, _, _, h, _⟩ := h
    cases h
  exact ⟨fun vs H Q E h => absurd h (no vs H Q E), fun A outer s H args us vs Q E _ _ _ _ h => absurd h (no vs H Q E)⟩
end
/-- the statement of a text that cannot be found -/
def retE (st : Stmt) : Expr := match defBody st with
  | [.Return (some e) _] => e
  | _ => .Constant .none 0 ⟨0, 0, 0, 0⟩
/-- the law's promise, from what it does with any list of ints -/
theorem law_sp {K : Frag} {H : Hp} {a : Addr} {ns : List Int} {F : FnS} {n : Nat} (hl : ns.length ≤ n) (hS : SqL K H a (ns.map V.int)) (law : ∀ ns : List Int, ns.length ≤ n → F [.fl (ns.map .int)] = some (.bl true)) :
    spS K 1 F [.ref a] H (fun v _ => v = .bl true) fun _ _ _ => False := by
  have hints : ∀ l : List Int, Dens K H (fun _ => False) (l.map D.int) (l.map V.int) := fun l => by
    induction l with
    | nil => exact .nil
    | cons x l ih => exact .cons (by rw [Den]) ih
  refine ⟨fun _ => False, [.fl (ns.map .int)], .bl true, rfl, .one ?_, fun _ z => z.elim, law ns hl, fun v H' _ dv => by rw [Den] at dv; exact dv⟩
  rw [Den]
  refine ⟨a, ns.map V.int, rfl, ?_, hints ns⟩
  rcases hS with h | ⟨o, its, n, h1, h2, h3, h4, h5, h6⟩
  · exact .inl ⟨h, id⟩
  · exact .inr ⟨o, its, n, h1, h2, h3, h4, h5, h6⟩
end NL

/-! NLH: words for the plain side -/
namespace NL
open PySem L2

theorem small_of {l : List D} (h : l.length ≤ 1000000) : small l = true := decide_eq_true (Nat.le_trans h (by show 1000000 ≤ 2 ^ 24; decide))
theorem small0 : small [] = true := small_of (by simp)
theorem small1 {a} : small [a] = true := small_of (by simp)
theorem small2 {a b} : small [a, b] = true := small_of (by simp)
theorem small3 {a b c} : small [a, b, c] = true := small_of (by simp)
theorem small4 {a b c d} : small [a, b, c, d] = true := small_of (by simp)
theorem small5 {a b c d e} : small [a, b, c, d, e] = true := small_of (by simp)
theorem gEq_ii {a b : Int} : gEq (.int a) (.int b) = some (.bl (a == b)) := rfl
theorem gNe_ii {a b : Int} : gNe (.int a) (.int b) = some (.bl (!(a == b))) := rfl
theorem gIx_l {l : List D} {i : Int} : gIx (.lst l) (.int i) = atI l i := rfl
theorem gIx_t {l : List D} {i : Int} : gIx (.tup l) (.int i) = atI l i := rfl
theorem gIx_f {l : List D} {i : Int} : gIx (.fl l) (.int i) = atI l i := rfl
theorem gMod_pos {a b : Int} (h : 0 < b) : gMod (.int a) (.int b) = some (.int (a % b)) := by
  unfold gMod; dsimp only; rw [decide_eq_true h]; rfl
theorem log2_lt {n k : Nat} (h : n < 2 ^ k) (hk : 0 < k) : n.log2 < k := by
  by_cases z : n = 0
  · subst z; rw [Nat.log2_zero]; exact hk
  · exact (Nat.log2_lt z).mpr h
theorem divOk_of {b : Int} (h : 0 < b) (h2 : b < 2 ^ 1000) : divOk b = true := by
  unfold divOk
  rw [decide_eq_true h, decide_eq_true (show b.natAbs.log2 < 9000 from ?_)]
  · rfl
  · have : b.natAbs < 2 ^ 1000 := by
      have e : ((2 ^ 1000 : Nat) : Int) = 2 ^ 1000 := by norm_cast
      omega
    have := log2_lt this (by decide)
    omega
theorem gDiv_pos {a b : Int} (h : divOk b = true) : gDiv (.int a) (.int b) = some (.int (a / b)) := by
  unfold gDiv; dsimp only; rw [h]; rfl
theorem mulOk_of {a b : Int} (h : a.natAbs < 2 ^ 1000) (h2 : b.natAbs < 2 ^ 1000) : mulOk a b = true := by
  unfold mulOk
  have := log2_lt h (by decide)
  have := log2_lt h2 (by decide)
  exact decide_eq_true (by omega)
theorem gMul_ok {a b : Int} (h : mulOk a b = true) : gMul (.int a) (.int b) = some (.int (a * b)) := by
  unfold gMul; dsimp only; rw [h]; rfl
/-- a while loop that ends by its test -/
theorem whileL_ok {c : SemB} {s : SemS} {Q : Env → Prop} (I : Nat → Env → Prop)
    (h : ∀ n env, I n env → ∃ b e1, c env = some (b, e1) ∧ ((b = true ∧ ∃ e2 m, s e1 = some (.nx e2) ∧ m < n ∧ I m e2) ∨ (b = false ∧ Q e1))) :
    ∀ F n env, n < F → I n env → ∃ e, whileL c s F env = some (.nx e) ∧ Q e
  | 0, n, env, hF, _ => by omega
  | F + 1, n, env, hF, hI => by
    obtain ⟨b, e1, h1, h2⟩ := h n env hI
    rw [whileL, h1]
    rcases h2 with ⟨rfl, e2, m, h2, h3, h4⟩ | ⟨rfl, h2⟩
    · obtain ⟨e, q1, q2⟩ := whileL_ok I h F m e2 (by omega) h4
      refine ⟨e, ?_, q2⟩
      simp only [Option.bind_some, if_true, h2, q1]
    · exact ⟨e1, by simp, h2⟩
theorem forL_ok {g : SemG} {b : SemS} {Q : Env → Prop} (I : List D → Env → Prop) (hd : ∀ env, I [] env → Q env)
    (h : ∀ d ds env, I (d :: ds) env → ∃ e1 e2, g d env = some e1 ∧ b e1 = some (.nx e2) ∧ I ds e2) : ∀ ds env, I ds env → ∃ e, forL g b ds env = some (.nx e) ∧ Q e
  | [], env, hI => ⟨env, rfl, hd env hI⟩
  | d :: ds, env, hI => by
    obtain ⟨e1, e2, h1, h2, h3⟩ := h d ds env hI
    obtain ⟨e, q1, q2⟩ := forL_ok I hd h ds e2 h3
    refine ⟨e, ?_, q2⟩
    rw [forL, h1]
    simp only [Option.bind_some, h2, q1]
theorem rangeD_eq (lo : Int) : ∀ n : Nat, rangeD lo n = (List.range n).map fun i : Nat => D.int (lo + (i : Int))
  | 0 => rfl
  | n + 1 => by
    rw [rangeD, rangeD_eq (lo + 1) n, List.range_succ_eq_map, List.map_cons, List.map_map]
    congr 1
    · simp
    · apply List.map_congr_left
      intro i _
      show D.int _ = D.int _
      congr 1
      simp
      omega
theorem inR_of {i : Int} (h0 : 0 ≤ i) (h : i < 2 ^ 62) : inR i = true := by
  unfold inR
  rw [decide_eq_true (by omega), decide_eq_true h]; rfl
theorem atI_nat' {α : Type} {l : List α} {i : Int} (h : 0 ≤ i) (h2 : i < l.length) : atI l i = l[i.toNat]? := by
  unfold atI ixN
  rw [if_pos h, if_pos h2]; rfl
theorem atI_0 {α : Type} {a : α} {l : List α} : atI (a :: l) 0 = some a := by
  rw [atI_nat' (by omega) (by simp only [List.length_cons]; omega)]; rfl
theorem atI_1 {α : Type} {a b : α} {l : List α} : atI (a :: b :: l) 1 = some b := by
  rw [atI_nat' (by omega) (by simp only [List.length_cons]; omega)]; rfl
theorem atI_2 {α : Type} {a b c : α} {l : List α} : atI (a :: b :: c :: l) 2 = some c := by
  rw [atI_nat' (by omega) (by simp only [List.length_cons]; omega)]; rfl
theorem atI_3 {α : Type} {a b c d : α} {l : List α} : atI (a :: b :: c :: d :: l) 3 = some d := by
  rw [atI_nat' (by omega) (by simp only [List.length_cons]; omega)]; rfl
theorem set_1 {a b v : D} {l : List D} : setD (.lst (a :: b :: l)) (.int 1) v = some (.lst (a :: v :: l)) := by
  unfold setD ixN; dsimp only
  rw [if_pos (by omega), if_pos (by simp only [List.length_cons]; omega)]; rfl
theorem set_2 {a b c v : D} {l : List D} : setD (.lst (a :: b :: c :: l)) (.int 2) v = some (.lst (a :: b :: v :: l)) := by
  unfold setD ixN; dsimp only
  rw [if_pos (by omega), if_pos (by simp only [List.length_cons]; omega)]; rfl
theorem set_3 {a b c d v : D} {l : List D} : setD (.lst (a :: b :: c :: d :: l)) (.int 3) v = some (.lst (a :: b :: c :: v :: l)) := by
  unfold setD ixN; dsimp only
  rw [if_pos (by omega), if_pos (by simp only [List.length_cons]; omega)]; rfl
theorem hLen_l {l : List D} : hLen (.lst l) = some (.int l.length) := rfl
theorem hLen_t {l : List D} : hLen (.tup l) = some (.int l.length) := rfl
end NL

/-! NLI: comprehensions and loops over lists, for the plain side -/
namespace NL
open PySem L2
theorem set_getD {l : Env} {v : Nat} {x : Sl} (h : v < l.length) : (l.set v x).set v (l.getD v .no) = l := by
  rw [List.set_set]
  have : l.getD v .no = l[v] := by rw [List.getD_eq_getElem?_getD, List.getElem?_eq_getElem h]; rfl
  rw [this]
  exact List.set_getElem_self h
theorem lcL_ok {tt : SemB} {te : Sem} {v : Nat} {env1 : Env} (hv : v < env1.length) (hw : wipable env1 [v] = true) (p : D → Bool) (f : D → D) : ∀ (ds : List D) (e : Env) (x0 : Sl), e = env1.set v x0 → wipable e [v] = true →
    (∀ d ∈ ds, tt (env1.set v (.sh d)) = some (p d, env1.set v (.sh d)) ∧ (p d = true → te (env1.set v (.sh d)) = some (.val (f d), env1.set v (.sh d)))) → ∃ x, lcL [v] (gName v) tt te ds e = some ((ds.filter p).map f, env1.set v x)
  | [], e, x0, he, hwe, h => ⟨x0, by rw [lcL, if_pos hwe, he]; rfl⟩
  | d :: ds, e, x0, he, hwe, h => by
    obtain ⟨h1, h2⟩ := h d List.mem_cons_self
    have hw2 : wipable (env1.set v (.sh d)) [v] = true := by unfold wipable; simp [List.getElem?_set_self hv]
    obtain ⟨x, ih⟩ := lcL_ok hv hw p f ds (env1.set v (.sh d)) (.sh d) rfl hw2 fun d' m => h d' (List.mem_cons_of_mem _ m)
    refine ⟨x, ?_⟩
    have hg : gName v d (wipeE e [v]) = some (env1.set v (.sh d)) := by
      subst he
      show storeS (.sh d) v (((env1.set v x0)).set v .no) = _
      rw [List.set_set]
      unfold storeS storable
      rw [List.getElem?_set_self hv]
      simp [List.set_set]
    rw [lcL, if_pos hwe, hg]
    simp only [Option.bind_some, h1]
    cases hp : p d with
    | true => rw [List.filter_cons_of_pos hp]; simp [h2 hp, force, ih]
    | false => rw [List.filter_cons_of_neg (by rw [hp]; simp)]; simp [ih]
theorem fLc_ok {mi : SemI} {tt : SemB} {te : Sem} {v : Nat} {env env1 : Env} {ds : List D} {u : Option Nat} (hm : mi env = some (ds, env1, u)) (hs : small ds = true) (hv : v < env1.length) (hw : wipable env1 [v] = true) (p : D → Bool) (f : D → D)
    (h : ∀ d ∈ ds, tt (env1.set v (.sh d)) = some (p d, env1.set v (.sh d)) ∧ (p d = true → te (env1.set v (.sh d)) = some (.val (f d), env1.set v (.sh d)))) : fLc mi [v] (gName v) tt te env = some (.lst ((ds.filter p).map f), unlockS u env1) := by
  have he : env1 = env1.set v (env1.getD v .no) := by
    have := set_getD (x := env1.getD v .no) hv
    rw [List.set_set] at this; exact this.symm
  obtain ⟨x, hl⟩ := lcL_ok hv hw p f ds env1 _ he hw h
  unfold fLc
  rw [hm]
  simp only [Option.bind_some, hs, hw, Bool.and_self, if_true, hl]
  show some (D.lst _, unlockS u ((env1.set v x).set v (env1.getD v .no))) = _
  rw [set_getD hv]
/-- a slot that may be stored to -/
def st : Sl → Bool
  | .lk _ => false
  | .io _ => false
  | _ => true
theorem storable_zero {s : Sl} {l : Env} : storable (s :: l) 0 = st s := by cases s <;> rfl
theorem storable_succ {s : Sl} {l : Env} {i : Nat} : storable (s :: l) (i + 1) = storable l i := rfl
theorem st_no : st .no = true := rfl
theorem st_sh {d : D} : st (.sh d) = true := rfl
theorem st_ow {d : D} : st (.ow d) = true := rfl
end NL

namespace NL
open PySem PySem.Spec L2
open PyProof.Rows hiding St
def top (i : Nat) : Stmt := PySem.Challenge.pw_numberlore_k05_squares_among_residues.main.body.getD i (.Pass ⟨0, 0, 0, 0⟩)
section
variable {P : Program} {w : World} {K : PySem.W.Frag} {mg : Str → Option Value} {base : Heap}
abbrev s__law_draw : Stmt := top 11
def G__law_draw : Ga := ⟨["script"], defScope s__law_draw, fun _ => true, [("list", .bi .list)], []⟩
def b__law_draw : SemF := (fLst (sCons (sGive (fList (sCons (sVar 0) sNil))) (sCons (sC (.int 0)) (sCons (sC (.int 0)) (sCons (sC (.int 17)) sNil)))))
theorem c__law_draw : (recN 60).F (G__law_draw) false (retE s__law_draw) = some (b__law_draw) := by kernel_rfl
def F__law_draw : FnS := runR 1 b__law_draw
theorem sc__law_draw : FnScope ["script"] ["script"] (defScope s__law_draw) := ⟨rfl, rfl, rfl, by decide +kernel, rfl, by decide +kernel, by decide +kernel⟩
theorem ok__law_draw {f__law_draw : Addr} {fd__law_draw : FuncData} (D__law_draw : DF K mg "_law_draw" s__law_draw ["script"] f__law_draw fd__law_draw) (z_list : mg "list" = none) : FnOk P w K mg base CX0 1 f__law_draw fd__law_draw ["script"] (spR K 1 F__law_draw) := def_r (k := 0) (G := G__law_draw) (e := retE s__law_draw) D__law_draw sc__law_draw rfl rfl rfl c__law_draw ⟨⟨z_list, rfl⟩, trivial⟩
abbrev s_root_below : Stmt := top 7
def G_root_below : Ga := ⟨["n"], defScope s_root_below, fun _ => true, [("isqrt", .math .isqrt)], []⟩
def b_root_below : SemS :=
    (sRet (sCallB (one hIsqrt) (sCons (sVar 0) sNil)))
theorem c_root_below : (recN 60).B (G_root_below) (defBody s_root_below) = some (b_root_below) := by kernel_rfl
def F_root_below : FnS := runF 1 b_root_below
theorem sc_root_below : FnScope ["n"] ["n"] (defScope s_root_below) := ⟨rfl, rfl, rfl, by decide +kernel, rfl, by decide +kernel, by decide +kernel⟩
theorem ok_root_below {f_root_below : Addr} {fd_root_below : FuncData} (D_root_below : DF K mg "root_below" s_root_below ["n"] f_root_below fd_root_below) (m_isqrt : mg "isqrt" = some (.builtin (MI.isqrt).id)) : FnOk P w K mg base CX0 1 f_root_below fd_root_below ["n"] (spS K 1 F_root_below) := def_s (k := 0) (G := G_root_below) D_root_below sc_root_below rfl rfl c_root_below ⟨m_isqrt, trivial⟩
abbrev s__law_primes_of : Stmt := top 16
def G__law_primes_of : Ga := ⟨["n", "found", "t"], defScope s__law_primes_of, fun _ => true, [], []⟩
def b__law_primes_of : SemS :=
    (sSeq (sParFV (fLst sNil) 1 (sC (.int 2)) 2)
    (sSeq (sWhile (sTB (sOp gGt (sVar 0) (sC (.int 1)))) (sSeq (sWhile (sTB (sOp gEq (sOp gMod (sVar 0) (sVar 2)) (sC (.int 0)))) (sSeq (sAsg (sOp gDiv (sVar 0) (sVar 2)) (gName 0))
    (sDrop (sAppend 1 (sVar 2)))))
    (sAsg (sOp gAdd (sVar 2) (sC (.int 1))) (gName 2))))
    (sRet (sVar 1))))
theorem c__law_primes_of : (recN 60).B (G__law_primes_of) (defBody s__law_primes_of) = some (b__law_primes_of) := by kernel_rfl
def F__law_primes_of : FnS := runF 3 b__law_primes_of
theorem sc__law_primes_of : FnScope ["n", "found", "t"] ["n"] (defScope s__law_primes_of) := ⟨rfl, rfl, rfl, by decide +kernel, rfl, by decide +kernel, by decide +kernel⟩
theorem ok__law_primes_of {f__law_primes_of : Addr} {fd__law_primes_of : FuncData} (D__law_primes_of : DF K mg "_law_primes_of" s__law_primes_of ["n"] f__law_primes_of fd__law_primes_of)  : FnOk P w K mg base CX0 1 f__law_primes_of fd__law_primes_of ["n"] (spS K 1 F__law_primes_of) := def_s (k := 0) (G := G__law_primes_of) D__law_primes_of sc__law_primes_of rfl rfl c__law_primes_of trivial
abbrev s__law_next : Stmt := top 12
def G__law_next : Ga := ⟨["draw", "many", "found", "cell"], defScope s__law_next, fun _ => true, [("int", .bi .int), ("len", .bi .len), ("abs", .bi .abs)], []⟩
def b__law_next : SemS :=
    (sSeq (sIfS (sTB (sOp gGt (sOp gIx (sVar 0) (sC (.int 2))) (sC (.int 0)))) (sSeq (sAsg (sOp gMod (sCallB (one hInt) (sCons (sOp gIx (sVar 0) (sC (.int 2))) sNil)) (sVar 1)) (gName 2))
    (sSeq (sAsg (sOp gDiv (sOp gIx (sVar 0) (sC (.int 2))) (sVar 1)) (gSet 0 (sC (.int 2))))
    (sRet (sVar 2)))) sSkip)
    (sSeq (sIfS (sTB (sOp gLt (sOp gIx (sVar 0) (sC (.int 1))) (sCallB (one hLen) (sCons (sOp gIx (sVar 0) (sC (.int 0))) sNil)))) (sSeq (sAsg (sCallB (one hAbs) (sCons (sOp gIx (sOp gIx (sVar 0) (sC (.int 0))) (sOp gIx (sVar 0) (sC (.int 1)))) sNil)) (gName 3))
    (sSeq (sAsg (sOp gAdd (sOp gIx (sVar 0) (sC (.int 1))) (sC (.int 1))) (gSet 0 (sC (.int 1))))
    (sSeq (sIfS (sTB (sOp gGe (sVar 3) (sOp gPow (sC (.int 10)) (sC (.int 18))))) (sSeq (sAsg (sOp gDiv (sVar 3) (sVar 1)) (gSet 0 (sC (.int 2))))
    (sRet (sOp gMod (sCallB (one hInt) (sCons (sVar 3) sNil)) (sVar 1)))) sSkip)
    (sAsg (sOp gMod (sCallB (one hInt) (sCons (sOp gAdd (sOp gAdd (sOp gMul (sOp gIx (sVar 0) (sC (.int 3))) (sC (.int 48271))) (sVar 3)) (sC (.int 11))) sNil)) (sC (.int 2147483647))) (gSet 0 (sC (.int 3))))))) (sAsg (sOp gMod (sCallB (one hInt) (sCons (sOp gAdd (sOp gMul (sOp gIx (sVar 0) (sC (.int 3))) (sC (.int 48271))) (sC (.int 12345))) sNil)) (sC (.int 2147483647))) (gSet 0 (sC (.int 3)))))
    (sRet (sOp gMod (sOp gDiv (sCallB (one hInt) (sCons (sOp gMod (sOp gMul (sOp gIx (sVar 0) (sC (.int 3))) (sC (.int 69621))) (sC (.int 2147483629))) sNil)) (sC (.int 7))) (sVar 1)))))
theorem c__law_next : (recN 60).B (G__law_next) (defBody s__law_next) = some (b__law_next) := by kernel_rfl
def F__law_next : FnI := runI 4 b__law_next
theorem sc__law_next : FnScope ["draw", "many", "found", "cell"] ["draw", "many"] (defScope s__law_next) := ⟨rfl, rfl, rfl, by decide +kernel, rfl, by decide +kernel, by decide +kernel⟩
theorem ok__law_next {f__law_next : Addr} {fd__law_next : FuncData} (D__law_next : DF K mg "_law_next" s__law_next ["draw", "many"] f__law_next fd__law_next) (z_int : mg "int" = none) (z_len : mg "len" = none) (z_abs : mg "abs" = none) : FnOk P w K mg base CX0 1 f__law_next fd__law_next ["draw", "many"] (spI K 2 F__law_next) := def_i (k := 0) (G := G__law_next) D__law_next sc__law_next rfl rfl c__law_next ⟨⟨z_int, rfl⟩, ⟨z_len, rfl⟩, ⟨z_abs, rfl⟩, trivial⟩
abbrev s__law_same : Stmt := top 13
def G__law_same (S : FnS) : Ga := ⟨["actual", "due", "k"], defScope s__law_same, fun _ => true, [("isinstance", .bi .isi), ("int", .bi .int), ("str", .bi .str), ("bool", .bi .bool), ("tuple", .bi .tuple), ("list", .bi .list), ("all", .bi .all), ("range", .bi .range), ("len", .bi .len), ("_law_same", .fn 2 S)], []⟩
def b__law_same (S : FnS) : SemS :=
    (sSeq (sIfS (sTruth (sCallB (two hIsi) (sCons (sVar 1) (sCons (sTup (sCons (sC (.ty .lst)) (sCons (sC (.ty .tup)) sNil))) sNil)))) (sSeq (sIfS (sOr (sTB (sOp gNe (sCallB (two hIsi) (sCons (sVar 1) (sCons (sC (.ty .lst)) sNil))) (sCallB (two hIsi) (sCons (sVar 0) (sCons (sC (.ty .lst)) sNil))))) (sTB (sOp gNe (sCallB (two hIsi) (sCons (sVar 1) (sCons (sC (.ty .tup)) sNil))) (sCallB (two hIsi) (sCons (sVar 0) (sCons (sC (.ty .tup)) sNil)))))) (sRet (sC (.bl false))) sSkip)
    (sSeq (sIfS (sTB (sOp gNe (sCallB (one hLen) (sCons (sVar 0) sNil)) (sCallB (one hLen) (sCons (sVar 1) sNil)))) (sRet (sC (.bl false))) sSkip)
    (sRet (sCallB (one hAll) (sCons (sGive (fLc (sRangeI (sCons (sCallB (one hLen) (sCons (sVar 1) sNil)) sNil)) [2] (gName 2) sYes (sCall S (sCons (sOp gIx (sVar 0) (sVar 2)) (sCons (sOp gIx (sVar 1) (sVar 2)) sNil))))) sNil))))) sSkip)
    (sSeq (sIfS (sTB (sOp gIs (sVar 1) (sC .non))) (sRet (sOp gIs (sVar 0) (sC .non))) sSkip)
    (sSeq (sIfS (sTB (sOp gNe (sCallB (two hIsi) (sCons (sVar 1) (sCons (sC (.ty .bl)) sNil))) (sCallB (two hIsi) (sCons (sVar 0) (sCons (sC (.ty .bl)) sNil))))) (sRet (sC (.bl false))) sSkip)
    (sSeq (sIfS (sTruth (sCallB (two hIsi) (sCons (sVar 1) (sCons (sC (.ty .str)) sNil)))) (sRet (sAndV (sCallB (two hIsi) (sCons (sVar 0) (sCons (sC (.ty .str)) sNil))) (sOp gEq (sVar 0) (sVar 1)))) sSkip)
    (sRet (sAndV (sCallB (two hIsi) (sCons (sVar 0) (sCons (sC (.ty .int)) sNil))) (sOp gEq (sVar 0) (sVar 1))))))))
theorem c__law_same (S : FnS) : (recN 60).B (G__law_same S) (defBody s__law_same) = some (b__law_same S) := by kernel_rfl
def F__law_same : Nat → FnS
  | 0 => fun _ => none
  | d + 1 => runF 3 (b__law_same (F__law_same d))
theorem sc__law_same : FnScope ["actual", "due", "k"] ["actual", "due"] (defScope s__law_same) := ⟨rfl, rfl, rfl, by decide +kernel, rfl, by decide +kernel, by decide +kernel⟩
theorem ok__law_same {f__law_same : Addr} {fd__law_same : FuncData} (D__law_same : DF K mg "_law_same" s__law_same ["actual", "due"] f__law_same fd__law_same) (z_isinstance : mg "isinstance" = none) (z_int : mg "int" = none) (z_str : mg "str" = none) (z_bool : mg "bool" = none) (z_tuple : mg "tuple" = none) (z_list : mg "list" = none) (z_all : mg "all" = none) (z_range : mg "range" = none) (z_len : mg "len" = none) (d : Nat) : FnOk P w K mg base CX0 (0 + d) f__law_same fd__law_same ["actual", "due"] (spS K 2 (F__law_same d)) := by
  induction d with
  | zero => exact fn_none
  | succ d ih => exact def_s (k := 0 + d) (G := G__law_same (F__law_same d)) D__law_same sc__law_same rfl rfl (c__law_same _) ⟨⟨z_isinstance, rfl⟩, ⟨z_int, rfl⟩, ⟨z_str, rfl⟩, ⟨z_bool, rfl⟩, ⟨z_tuple, rfl⟩, ⟨z_list, rfl⟩, ⟨z_all, rfl⟩, ⟨z_range, rfl⟩, ⟨z_len, rfl⟩, D__law_same.go ih (by omega), trivial⟩
abbrev s_is_square : Stmt := top 6
def G_is_square : Ga := ⟨["n"], defScope s_is_square, fun _ => true, [("isqrt", .math .isqrt)], []⟩
def b_is_square : SemS :=
    (sRet (sAndV (sOp gGe (sVar 0) (sC (.int 0))) (sOp gEq (sOp gMul (sCallB (one hIsqrt) (sCons (sVar 0) sNil)) (sCallB (one hIsqrt) (sCons (sVar 0) sNil))) (sVar 0))))
theorem c_is_square : (recN 60).B (G_is_square) (defBody s_is_square) = some (b_is_square) := by kernel_rfl
def F_is_square : FnS := runF 1 b_is_square
theorem sc_is_square : FnScope ["n"] ["n"] (defScope s_is_square) := ⟨rfl, rfl, rfl, by decide +kernel, rfl, by decide +kernel, by decide +kernel⟩
theorem ok_is_square {f_is_square : Addr} {fd_is_square : FuncData} (D_is_square : DF K mg "is_square" s_is_square ["n"] f_is_square fd_is_square) (m_isqrt : mg "isqrt" = some (.builtin (MI.isqrt).id)) : FnOk P w K mg base CX0 1 f_is_square fd_is_square ["n"] (spS K 1 F_is_square) := def_s (k := 0) (G := G_is_square) D_is_square sc_is_square rfl rfl c_is_square ⟨m_isqrt, trivial⟩
abbrev s_sign_at : Stmt := top 5
def G_sign_at : Ga := ⟨["a", "n", "found"], defScope s_sign_at, fun _ => true, [], []⟩
def b_sign_at : SemS :=
    (sSeq (sAsg (sOp gMod (sVar 0) (sVar 1)) (gName 0))
    (sSeq (sAsg (sC (.int 1)) (gName 2))
    (sSeq (sWhile (sTB (sOp gNe (sVar 0) (sC (.int 0)))) (sSeq (sWhile (sTB (sOp gEq (sOp gMod (sVar 0) (sC (.int 2))) (sC (.int 0)))) (sSeq (sAsg (sOp gDiv (sVar 0) (sC (.int 2))) (gName 0))
    (sIfS (sTB (sOp gIn (sOp gMod (sVar 1) (sC (.int 8))) (sTup (sCons (sC (.int 3)) (sCons (sC (.int 5)) sNil))))) (sAsg (sUn gNeg (sVar 2)) (gName 2)) sSkip)))
    (sSeq (sAsg (sTup (sCons (sVar 1) (sCons (sVar 0) sNil))) (gTup 2 (gsCons (gName 0) (gsCons (gName 1) gsNil))))
    (sSeq (sIfS (sAnd (sTB (sOp gEq (sOp gMod (sVar 0) (sC (.int 4))) (sC (.int 3)))) (sTB (sOp gEq (sOp gMod (sVar 1) (sC (.int 4))) (sC (.int 3))))) (sAsg (sUn gNeg (sVar 2)) (gName 2)) sSkip)
    (sAsg (sOp gMod (sVar 0) (sVar 1)) (gName 0))))))
    (sRet (sIf (sTB (sOp gEq (sVar 1) (sC (.int 1)))) (sVar 2) (sC (.int 0)))))))
theorem c_sign_at : (recN 60).B (G_sign_at) (defBody s_sign_at) = some (b_sign_at) := by kernel_rfl
def F_sign_at : FnS := runF 3 b_sign_at
theorem sc_sign_at : FnScope ["a", "n", "found"] ["a", "n"] (defScope s_sign_at) := ⟨rfl, rfl, rfl, by decide +kernel, rfl, by decide +kernel, by decide +kernel⟩
theorem ok_sign_at {f_sign_at : Addr} {fd_sign_at : FuncData} (D_sign_at : DF K mg "sign_at" s_sign_at ["a", "n"] f_sign_at fd_sign_at)  : FnOk P w K mg base CX0 1 f_sign_at fd_sign_at ["a", "n"] (spS K 2 F_sign_at) := def_s (k := 0) (G := G_sign_at) D_sign_at sc_sign_at rfl rfl c_sign_at trivial
abbrev s_inverse : Stmt := top 2
def G_inverse : Ga := ⟨["a", "m", "left", "right", "one", "other", "times"], defScope s_inverse, fun _ => true, [], []⟩
def b_inverse : SemS :=
    (sSeq (sAsg (sTup (sCons (sOp gMod (sVar 0) (sVar 1)) (sCons (sVar 1) sNil))) (gTup 2 (gsCons (gName 2) (gsCons (gName 3) gsNil))))
    (sSeq (sAsg (sTup (sCons (sC (.int 1)) (sCons (sC (.int 0)) sNil))) (gTup 2 (gsCons (gName 4) (gsCons (gName 5) gsNil))))
    (sSeq (sWhile (sTB (sOp gGt (sVar 3) (sC (.int 0)))) (sSeq (sAsg (sOp gDiv (sVar 2) (sVar 3)) (gName 6))
    (sSeq (sAsg (sTup (sCons (sVar 3) (sCons (sOp gSub (sVar 2) (sOp gMul (sVar 6) (sVar 3))) sNil))) (gTup 2 (gsCons (gName 2) (gsCons (gName 3) gsNil))))
    (sAsg (sTup (sCons (sVar 5) (sCons (sOp gSub (sVar 4) (sOp gMul (sVar 6) (sVar 5))) sNil))) (gTup 2 (gsCons (gName 4) (gsCons (gName 5) gsNil)))))))
    (sRet (sIf (sOr (sTB (sOp gEq (sVar 2) (sC (.int 1)))) (sTB (sOp gEq (sVar 1) (sC (.int 1))))) (sOp gMod (sVar 4) (sVar 1)) (sC .non))))))
theorem c_inverse : (recN 60).B (G_inverse) (defBody s_inverse) = some (b_inverse) := by kernel_rfl
def F_inverse : FnS := runF 7 b_inverse
theorem sc_inverse : FnScope ["a", "m", "left", "right", "one", "other", "times"] ["a", "m"] (defScope s_inverse) := ⟨rfl, rfl, rfl, by decide +kernel, rfl, by decide +kernel, by decide +kernel⟩
theorem ok_inverse {f_inverse : Addr} {fd_inverse : FuncData} (D_inverse : DF K mg "inverse" s_inverse ["a", "m"] f_inverse fd_inverse)  : FnOk P w K mg base CX0 1 f_inverse fd_inverse ["a", "m"] (spS K 2 F_inverse) := def_s (k := 0) (G := G_inverse) D_inverse sc_inverse rfl rfl c_inverse trivial
abbrev s_power : Stmt := top 3
def G_power : Ga := ⟨["a", "k", "m", "found"], defScope s_power, fun _ => true, [("inverse", .fn 2 F_inverse)], []⟩
def b_power : SemS :=
    (sSeq (sIfS (sTB (sOp gLt (sVar 1) (sC (.int 0)))) (sAsg (sTup (sCons (sCall F_inverse (sCons (sVar 0) (sCons (sVar 2) sNil))) (sCons (sUn gNeg (sVar 1)) sNil))) (gTup 2 (gsCons (gName 0) (gsCons (gName 1) gsNil)))) sSkip)
    (sSeq (sAsg (sOp gMod (sC (.int 1)) (sVar 2)) (gName 3))
    (sSeq (sAsg (sOp gMod (sVar 0) (sVar 2)) (gName 0))
    (sSeq (sWhile (sTB (sOp gGt (sVar 1) (sC (.int 0)))) (sSeq (sIfS (sTB (sOp gEq (sOp gMod (sVar 1) (sC (.int 2))) (sC (.int 1)))) (sAsg (sOp gMod (sOp gMul (sVar 3) (sVar 0)) (sVar 2)) (gName 3)) sSkip)
    (sSeq (sAsg (sOp gMod (sOp gMul (sVar 0) (sVar 0)) (sVar 2)) (gName 0))
    (sAsg (sOp gDiv (sVar 1) (sC (.int 2))) (gName 1)))))
    (sRet (sVar 3))))))
theorem c_power : (recN 60).B (G_power) (defBody s_power) = some (b_power) := by kernel_rfl
def F_power : FnS := runF 4 b_power
theorem sc_power : FnScope ["a", "k", "m", "found"] ["a", "k", "m"] (defScope s_power) := ⟨rfl, rfl, rfl, by decide +kernel, rfl, by decide +kernel, by decide +kernel⟩
theorem ok_power {f_power : Addr} {fd_power : FuncData} (D_power : DF K mg "power" s_power ["a", "k", "m"] f_power fd_power) {f_inverse : Addr} {fd_inverse : FuncData} (D_inverse : DF K mg "inverse" s_inverse ["a", "m"] f_inverse fd_inverse) (k_inverse : FnOk P w K mg base CX0 1 f_inverse fd_inverse ["a", "m"] (spS K 2 F_inverse)) : FnOk P w K mg base CX0 2 f_power fd_power ["a", "k", "m"] (spS K 3 F_power) := def_s (k := 1) (G := G_power) D_power sc_power rfl rfl c_power ⟨D_inverse.go k_inverse (by omega), trivial⟩
abbrev s_square_root : Stmt := top 9
def G_square_root : Ga := ⟨["a", "p", "odd", "twos", "other", "turn", "root", "left", "high", "square", "step"], defScope s_square_root, fun _ => true, [("power", .fn 3 F_power), ("sign_at", .fn 2 F_sign_at)], []⟩
def b_square_root : SemS :=
    (sSeq (sAsg (sTup (sCons (sOp gSub (sVar 1) (sC (.int 1))) (sCons (sC (.int 0)) sNil))) (gTup 2 (gsCons (gName 2) (gsCons (gName 3) gsNil))))
    (sSeq (sWhile (sTB (sOp gEq (sOp gMod (sVar 2) (sC (.int 2))) (sC (.int 0)))) (sAsg (sTup (sCons (sOp gDiv (sVar 2) (sC (.int 2))) (sCons (sOp gAdd (sVar 3) (sC (.int 1))) sNil))) (gTup 2 (gsCons (gName 2) (gsCons (gName 3) gsNil)))))
    (sSeq (sAsg (sC (.int 2)) (gName 4))
    (sSeq (sWhile (sTB (sOp gNe (sCall F_sign_at (sCons (sVar 4) (sCons (sVar 1) sNil))) (sUn gNeg (sC (.int 1))))) (sAsg (sOp gAdd (sVar 4) (sC (.int 1))) (gName 4)))
    (sSeq (sAsg (sCall F_power (sCons (sVar 4) (sCons (sVar 2) (sCons (sVar 1) sNil)))) (gName 5))
    (sSeq (sAsg (sTup (sCons (sCall F_power (sCons (sVar 0) (sCons (sOp gDiv (sOp gAdd (sVar 2) (sC (.int 1))) (sC (.int 2))) (sCons (sVar 1) sNil)))) (sCons (sCall F_power (sCons (sVar 0) (sCons (sVar 2) (sCons (sVar 1) sNil)))) sNil))) (gTup 2 (gsCons (gName 6) (gsCons (gName 7) gsNil))))
    (sSeq (sWhile (sTB (sOp gNe (sVar 7) (sC (.int 1)))) (sSeq (sAsg (sTup (sCons (sC (.int 0)) (sCons (sVar 7) sNil))) (gTup 2 (gsCons (gName 8) (gsCons (gName 9) gsNil))))
    (sSeq (sWhile (sTB (sOp gNe (sVar 9) (sC (.int 1)))) (sAsg (sTup (sCons (sOp gMod (sOp gMul (sVar 9) (sVar 9)) (sVar 1)) (sCons (sOp gAdd (sVar 8) (sC (.int 1))) sNil))) (gTup 2 (gsCons (gName 9) (gsCons (gName 8) gsNil)))))
    (sSeq (sAsg (sCall F_power (sCons (sVar 5) (sCons (sOp gShl (sC (.int 1)) (sOp gSub (sOp gSub (sVar 3) (sVar 8)) (sC (.int 1)))) (sCons (sVar 1) sNil)))) (gName 10))
    (sSeq (sAsg (sTup (sCons (sOp gMod (sOp gMul (sVar 10) (sVar 10)) (sVar 1)) (sCons (sVar 8) sNil))) (gTup 2 (gsCons (gName 5) (gsCons (gName 3) gsNil))))
    (sAsg (sTup (sCons (sOp gMod (sOp gMul (sVar 6) (sVar 10)) (sVar 1)) (sCons (sOp gMod (sOp gMul (sVar 7) (sVar 5)) (sVar 1)) sNil))) (gTup 2 (gsCons (gName 6) (gsCons (gName 7) gsNil)))))))))
    (sRet (sVar 6)))))))))
theorem c_square_root : (recN 60).B (G_square_root) (defBody s_square_root) = some (b_square_root) := by kernel_rfl
def F_square_root : FnS := runF 11 b_square_root
theorem sc_square_root : FnScope ["a", "p", "odd", "twos", "other", "turn", "root", "left", "high", "square", "step"] ["a", "p"] (defScope s_square_root) := ⟨rfl, rfl, rfl, by decide +kernel, rfl, by decide +kernel, by decide +kernel⟩
theorem ok_square_root {f_square_root : Addr} {fd_square_root : FuncData} (D_square_root : DF K mg "square_root" s_square_root ["a", "p"] f_square_root fd_square_root) {f_power : Addr} {fd_power : FuncData} (D_power : DF K mg "power" s_power ["a", "k", "m"] f_power fd_power) (k_power : FnOk P w K mg base CX0 2 f_power fd_power ["a", "k", "m"] (spS K 3 F_power)) {f_sign_at : Addr} {fd_sign_at : FuncData} (D_sign_at : DF K mg "sign_at" s_sign_at ["a", "n"] f_sign_at fd_sign_at) (k_sign_at : FnOk P w K mg base CX0 1 f_sign_at fd_sign_at ["a", "n"] (spS K 2 F_sign_at)) : FnOk P w K mg base CX0 3 f_square_root fd_square_root ["a", "p"] (spS K 2 F_square_root) := def_s (k := 2) (G := G_square_root) D_square_root sc_square_root rfl rfl c_square_root ⟨D_power.go k_power (by omega), D_sign_at.go k_sign_at (by omega), trivial⟩
abbrev s_prime_roots : Stmt := top 8
def G_prime_roots : Ga := ⟨["a", "p", "root"], defScope s_prime_roots, fun _ => true, [("tuple", .bi .tuple), ("sorted", .bi .sorted), ("square_root", .fn 2 F_square_root), ("sign_at", .fn 2 F_sign_at)], []⟩
def b_prime_roots : SemS :=
    (sSeq (sAsg (sOp gMod (sVar 0) (sVar 1)) (gName 0))
    (sSeq (sIfS (sOr (sTB (sOp gEq (sVar 1) (sC (.int 2)))) (sTB (sOp gEq (sVar 0) (sC (.int 0))))) (sRet (sTup (sCons (sVar 0) sNil))) sSkip)
    (sSeq (sIfS (sTB (sOp gNe (sCall F_sign_at (sCons (sVar 0) (sCons (sVar 1) sNil))) (sC (.int 1)))) (sRet (sTup sNil)) sSkip)
    (sSeq (sAsg (sCall F_square_root (sCons (sVar 0) (sCons (sVar 1) sNil))) (gName 2))
    (sRet (sCallB (one hTuple) (sCons (sCallB (one hSorted) (sCons (sGive (fLst (sCons (sVar 2) (sCons (sOp gSub (sVar 1) (sVar 2)) sNil)))) sNil)) sNil)))))))
theorem c_prime_roots : (recN 60).B (G_prime_roots) (defBody s_prime_roots) = some (b_prime_roots) := by kernel_rfl
def F_prime_roots : FnS := runF 3 b_prime_roots
theorem sc_prime_roots : FnScope ["a", "p", "root"] ["a", "p"] (defScope s_prime_roots) := ⟨rfl, rfl, rfl, by decide +kernel, rfl, by decide +kernel, by decide +kernel⟩
theorem ok_prime_roots {f_prime_roots : Addr} {fd_prime_roots : FuncData} (D_prime_roots : DF K mg "prime_roots" s_prime_roots ["a", "p"] f_prime_roots fd_prime_roots) (z_tuple : mg "tuple" = none) (z_sorted : mg "sorted" = none) {f_square_root : Addr} {fd_square_root : FuncData} (D_square_root : DF K mg "square_root" s_square_root ["a", "p"] f_square_root fd_square_root) (k_square_root : FnOk P w K mg base CX0 3 f_square_root fd_square_root ["a", "p"] (spS K 2 F_square_root)) {f_sign_at : Addr} {fd_sign_at : FuncData} (D_sign_at : DF K mg "sign_at" s_sign_at ["a", "n"] f_sign_at fd_sign_at) (k_sign_at : FnOk P w K mg base CX0 1 f_sign_at fd_sign_at ["a", "n"] (spS K 2 F_sign_at)) : FnOk P w K mg base CX0 4 f_prime_roots fd_prime_roots ["a", "p"] (spS K 2 F_prime_roots) := def_s (k := 3) (G := G_prime_roots) D_prime_roots sc_prime_roots rfl rfl c_prime_roots ⟨⟨z_tuple, rfl⟩, ⟨z_sorted, rfl⟩, D_square_root.go k_square_root (by omega), D_sign_at.go k_sign_at (by omega), trivial⟩
abbrev s_law : Stmt := top 17
def law_1 : SemS :=
    (sOwn (fCall F__law_draw (sCons (sVar 0) sNil)) 1)
def law_2 : SemS :=
    (sFor (sRangeI (sCons (sC (.int 3)) sNil)) (gName 2) (sSeq (sAsg (sTup (sCons (sOp gAdd (sC (.int 1)) (sOp gMul (sC (.int 2)) (sCallI F__law_next 1 (sCons (sC (.int 120)) sNil)))) (sCons (sOp gSub (sCallI F__law_next 1 (sCons (sC (.int 500)) sNil)) (sC (.int 250))) sNil))) (gTup 2 (gsCons (gName 3) (gsCons (gName 4) gsNil))))
    (sSeq (sAsg (sC (.int 1)) (gName 5))
    (sSeq (sFor (sSeqI (sCall F__law_primes_of (sCons (sVar 3) sNil))) (gName 6) (sSeq (sOwn (fLc (sRangeI (sCons (sVar 6) sNil)) [11] (gName 11) (sTB (sOp gEq (sOp gMod (sOp gSub (sOp gMul (sVar 11) (sVar 11)) (sVar 4)) (sVar 6)) (sC (.int 0)))) (sVar 11)) 7)
    (sAsg (sOp gMul (sVar 5) (sIf (sTB (sOp gEq (sOp gMod (sVar 4) (sVar 6)) (sC (.int 0)))) (sC (.int 0)) (sIf (sTruth (sVar 7)) (sC (.int 1)) (sUn gNeg (sC (.int 1)))))) (gName 5))))
    (sIfS (sNot (sTruth (sCall (F__law_same 6) (sCons (sCall F_sign_at (sCons (sVar 4) (sCons (sVar 3) sNil))) (sCons (sVar 5) sNil))))) (sRet (sC (.bl false))) sSkip)))))
def law_3 : SemS :=
    (sAsg (sOp gIx (sGive (fLst (sCons (sC (.int 2)) (sCons (sC (.int 3)) (sCons (sC (.int 5)) (sCons (sC (.int 7)) (sCons (sC (.int 11)) (sCons (sC (.int 13)) (sCons (sC (.int 17)) (sCons (sC (.int 41)) (sCons (sC (.int 73)) (sCons (sC (.int 97)) (sCons (sC (.int 193)) (sCons (sC (.int 257)) (sCons (sC (.int 401)) sNil))))))))))))))) (sCallI F__law_next 1 (sCons (sC (.int 13)) sNil))) (gName 8))
def law_4 : SemS :=
    (sFor (sRangeI (sCons (sC (.int 4)) sNil)) (gName 2) (sSeq (sAsg (sOp gSub (sCallI F__law_next 1 (sCons (sOp gMul (sC (.int 3)) (sVar 8)) sNil)) (sVar 8)) (gName 4))
    (sIfS (sNot (sTruth (sCall (F__law_same 6) (sCons (sCall F_prime_roots (sCons (sVar 4) (sCons (sVar 8) sNil))) (sCons (sCallB (one hTuple) (sCons (sGive (fLc (sRangeI (sCons (sVar 8) sNil)) [11] (gName 11) (sTB (sOp gEq (sOp gMod (sOp gSub (sOp gMul (sVar 11) (sVar 11)) (sVar 4)) (sVar 8)) (sC (.int 0)))) (sVar 11))) sNil)) sNil))))) (sRet (sC (.bl false))) sSkip)))
def law_5 : SemS :=
    (sAsg (sOp gSub (sCallI F__law_next 1 (sCons (sC (.int 900)) sNil)) (sC (.int 100))) (gName 3))
def law_6 : SemS :=
    (sIfS (sNot (sTruth (sCall (F__law_same 6) (sCons (sCall F_is_square (sCons (sVar 3) sNil)) (sCons (sOp gIn (sVar 3) (sGive (fLc (sRangeI (sCons (sC (.int 32)) sNil)) [11] (gName 11) sYes (sOp gMul (sVar 11) (sVar 11))))) sNil))))) (sRet (sC (.bl false))) sSkip)
def law_7 : SemS :=
    (sAsg (sOp gAdd (sOp gMul (sCallB (one hAbs) (sCons (sVar 3) sNil)) (sOp gIx (sGive (fLst (sCons (sC (.int 1)) (sCons (sC (.int 1000003)) (sCons (sOp gAdd (sOp gPow (sC (.int 10)) (sC (.int 12))) (sC (.int 39))) sNil))))) (sCallI F__law_next 1 (sCons (sC (.int 3)) sNil)))) (sCallI F__law_next 1 (sCons (sC (.int 5)) sNil))) (gName 9))
def law_8 : SemS :=
    (sAsg (sCall F_root_below (sCons (sVar 9) sNil)) (gName 10))
def law_9 : SemS :=
    (sRet (sAndV (sCallB (two hIsi) (sCons (sVar 10) (sCons (sC (.ty .int)) sNil))) (sAndV (sOp gGe (sVar 10) (sC (.int 0))) (sAndV (sChain gLe gLt (sOp gMul (sVar 10) (sVar 10)) (sVar 9) (sOp gMul (sOp gAdd (sVar 10) (sC (.int 1))) (sOp gAdd (sVar 10) (sC (.int 1))))) (sOp gIs (sCall F_is_square (sCons (sOp gMul (sVar 10) (sVar 10)) sNil)) (sC (.bl true)))))))
def G_law : Ga := ⟨["script", "draw", "turn", "n", "a", "due", "prime", "near", "p", "great", "told", "t"], defScope s_law, fun _ => true, [("_law_draw", .ff 1 F__law_draw), ("range", .bi .range), ("_law_same", .fn 2 (F__law_same 6)), ("sign_at", .fn 2 F_sign_at), ("_law_primes_of", .fn 1 F__law_primes_of), ("_law_next", .fi 2 F__law_next), ("tuple", .bi .tuple), ("prime_roots", .fn 2 F_prime_roots), ("is_square", .fn 1 F_is_square), ("abs", .bi .abs), ("root_below", .fn 1 F_root_below), ("isinstance", .bi .isi), ("int", .bi .int)], []⟩
def b_law : SemS :=
    (sSeq law_1 (sSeq law_2 (sSeq law_3 (sSeq law_4 (sSeq law_5 (sSeq law_6 (sSeq law_7 (sSeq law_8 law_9))))))))
theorem c_law : (recN 60).B (G_law) (defBody s_law) = some (b_law) := by kernel_rfl
def F_law : FnS := runF 12 b_law
theorem sc_law : FnScope ["script", "draw", "turn", "n", "a", "due", "prime", "near", "p", "great", "told", "t"] ["script"] (defScope s_law) := ⟨rfl, rfl, rfl, by decide +kernel, rfl, by decide +kernel, by decide +kernel⟩
theorem ok_law {f_law : Addr} {fd_law : FuncData} (D_law : DF K mg "law" s_law ["script"] f_law fd_law) {f__law_draw : Addr} {fd__law_draw : FuncData} (D__law_draw : DF K mg "_law_draw" s__law_draw ["script"] f__law_draw fd__law_draw) (k__law_draw : FnOk P w K mg base CX0 1 f__law_draw fd__law_draw ["script"] (spR K 1 F__law_draw)) (z_range : mg "range" = none) {f__law_same : Addr} {fd__law_same : FuncData} (D__law_same : DF K mg "_law_same" s__law_same ["actual", "due"] f__law_same fd__law_same) (k__law_same : FnOk P w K mg base CX0 6 f__law_same fd__law_same ["actual", "due"] (spS K 2 (F__law_same 6))) {f_sign_at : Addr} {fd_sign_at : FuncData} (D_sign_at : DF K mg "sign_at" s_sign_at ["a", "n"] f_sign_at fd_sign_at) (k_sign_at : FnOk P w K mg base CX0 1 f_sign_at fd_sign_at ["a", "n"] (spS K 2 F_sign_at)) {f__law_primes_of : Addr} {fd__law_primes_of : FuncData} (D__law_primes_of : DF K mg "_law_primes_of" s__law_primes_of ["n"] f__law_primes_of fd__law_primes_of) (k__law_primes_of : FnOk P w K mg base CX0 1 f__law_primes_of fd__law_primes_of ["n"] (spS K 1 F__law_primes_of)) {f__law_next : Addr} {fd__law_next : FuncData} (D__law_next : DF K mg "_law_next" s__law_next ["draw", "many"] f__law_next fd__law_next) (k__law_next : FnOk P w K mg base CX0 1 f__law_next fd__law_next ["draw", "many"] (spI K 2 F__law_next)) (z_tuple : mg "tuple" = none) {f_prime_roots : Addr} {fd_prime_roots : FuncData} (D_prime_roots : DF K mg "prime_roots" s_prime_roots ["a", "p"] f_prime_roots fd_prime_roots) (k_prime_roots : FnOk P w K mg base CX0 4 f_prime_roots fd_prime_roots ["a", "p"] (spS K 2 F_prime_roots)) {f_is_square : Addr} {fd_is_square : FuncData} (D_is_square : DF K mg "is_square" s_is_square ["n"] f_is_square fd_is_square) (k_is_square : FnOk P w K mg base CX0 1 f_is_square fd_is_square ["n"] (spS K 1 F_is_square)) (z_abs : mg "abs" = none) {f_root_below : Addr} {fd_root_below : FuncData} (D_root_below : DF K mg "root_below" s_root_below ["n"] f_root_below fd_root_below) (k_root_below : FnOk P w K mg base CX0 1 f_root_below fd_root_below ["n"] (spS K 1 F_root_below)) (z_isinstance : mg "isinstance" = none) (z_int : mg "int" = none) : FnOk P w K mg base CX0 7 f_law fd_law ["script"] (spS K 1 F_law) := def_s (k := 6) (G := G_law) D_law sc_law rfl rfl c_law ⟨D__law_draw.gf k__law_draw (by omega), ⟨z_range, rfl⟩, D__law_same.go k__law_same (by omega), D_sign_at.go k_sign_at (by omega), D__law_primes_of.go k__law_primes_of (by omega), D__law_next.gi k__law_next (by omega), ⟨z_tuple, rfl⟩, D_prime_roots.go k_prime_roots (by omega), D_is_square.go k_is_square (by omega), ⟨z_abs, rfl⟩, D_root_below.go k_root_below (by omega), ⟨z_isinstance, rfl⟩, ⟨z_int, rfl⟩, trivial⟩
end
theorem all_mk {l : PySem.W.OpenLaw} {w : World} {K : PySem.W.Frag} {h : Heap} {mg : Str → Option Value} {fa : Addr} (X : K.In h) (Gm : h.Ns mainGlobals mg) (hfa : mg "law" = some (.ref fa)) {f0 : Addr} {od0 an0 : Option Addr} {sl0 : Array (Option Value)} {oc0 kV0 dc0 pm0 cd0 ct0 : Value} (a0 : PySem.W.nsIn K mainGlobals "_law_draw" = some (some (.ref f0))) (l0 : K.lookup f0 = some ⟨oc0, od0, .func (PySem.W.fnOf "_law_draw" "_law_draw" (defArgs s__law_draw) (defBody s__law_draw) (defScope s__law_draw) .none kV0 dc0 pm0 an0 cd0 ct0), sl0⟩) (c0 : PySem.W.codeIn K cd0 "_law_draw" = true) (k0 : PySem.W.keepIn K (.ref f0) = true) {f1 : Addr} {od1 an1 : Option Addr} {sl1 : Array (Option Value)} {oc1 kV1 dc1 pm1 cd1 ct1 : Value} (a1 : PySem.W.nsIn K mainGlobals "root_below" = some (some (.ref f1))) (l1 : K.lookup f1 = some ⟨oc1, od1, .func (PySem.W.fnOf "root_below" "root_below" (defArgs s_root_below) (defBody s_root_below) (defScope s_root_below) .none kV1 dc1 pm1 an1 cd1 ct1), sl1⟩) (c1 : PySem.W.codeIn K cd1 "root_below" = true) (k1 : PySem.W.keepIn K (.ref f1) = true) {f2 : Addr} {od2 an2 : Option Addr} {sl2 : Array (Option Value)} {oc2 kV2 dc2 pm2 cd2 ct2 : Value} (a2 : PySem.W.nsIn K mainGlobals "_law_primes_of" = some (some (.ref f2))) (l2 : K.lookup f2 = some ⟨oc2, od2, .func (PySem.W.fnOf "_law_primes_of" "_law_primes_of" (defArgs s__law_primes_of) (defBody s__law_primes_of) (defScope s__law_primes_of) .none kV2 dc2 pm2 an2 cd2 ct2), sl2⟩) (c2 : PySem.W.codeIn K cd2 "_law_primes_of" = true) (k2 : PySem.W.keepIn K (.ref f2) = true) {f3 : Addr} {od3 an3 : Option Addr} {sl3 : Array (Option Value)} {oc3 kV3 dc3 pm3 cd3 ct3 : Value} (a3 : PySem.W.nsIn K mainGlobals "_law_next" = some (some (.ref f3))) (l3 : K.lookup f3 = some ⟨oc3, od3, .func (PySem.W.fnOf "_law_next" "_law_next" (defArgs s__law_next) (defBody s__law_next) (defScope s__law_next) .none kV3 dc3 pm3 an3 cd3 ct3), sl3⟩) (c3 : PySem.W.codeIn K cd3 "_law_next" = true) (k3 : PySem.W.keepIn K (.ref f3) = true) {f4 : Addr} {od4 an4 : Option Addr} {sl4 : Array (Option Value)} {oc4 kV4 dc4 pm4 cd4 ct4 : Value} (a4 : PySem.W.nsIn K mainGlobals "_law_same" = some (some (.ref f4))) (l4 : K.lookup f4 = some ⟨oc4, od4, .func (PySem.W.fnOf "_law_same" "_law_same" (defArgs s__law_same) (defBody s__law_same) (defScope s__law_same) .none kV4 dc4 pm4 an4 cd4 ct4), sl4⟩) (c4 : PySem.W.codeIn K cd4 "_law_same" = true) (k4 : PySem.W.keepIn K (.ref f4) = true) {f5 : Addr} {od5 an5 : Option Addr} {sl5 : Array (Option Value)} {oc5 kV5 dc5 pm5 cd5 ct5 : Value} (a5 : PySem.W.nsIn K mainGlobals "is_square" = some (some (.ref f5))) (l5 : K.lookup f5 = some ⟨oc5, od5, .func (PySem.W.fnOf "is_square" "is_square" (defArgs s_is_square) (defBody s_is_square) (defScope s_is_square) .none kV5 dc5 pm5 an5 cd5 ct5), sl5⟩) (c5 : PySem.W.codeIn K cd5 "is_square" = true) (k5 : PySem.W.keepIn K (.ref f5) = true) {f6 : Addr} {od6 an6 : Option Addr} {sl6 : Array (Option Value)} {oc6 kV6 dc6 pm6 cd6 ct6 : Value} (a6 : PySem.W.nsIn K mainGlobals "sign_at" = some (some (.ref f6))) (l6 : K.lookup f6 = some ⟨oc6, od6, .func (PySem.W.fnOf "sign_at" "sign_at" (defArgs s_sign_at) (defBody s_sign_at) (defScope s_sign_at) .none kV6 dc6 pm6 an6 cd6 ct6), sl6⟩) (c6 : PySem.W.codeIn K cd6 "sign_at" = true) (k6 : PySem.W.keepIn K (.ref f6) = true) {f7 : Addr} {od7 an7 : Option Addr} {sl7 : Array (Option Value)} {oc7 kV7 dc7 pm7 cd7 ct7 : Value} (a7 : PySem.W.nsIn K mainGlobals "inverse" = some (some (.ref f7))) (l7 : K.lookup f7 = some ⟨oc7, od7, .func (PySem.W.fnOf "inverse" "inverse" (defArgs s_inverse) (defBody s_inverse) (defScope s_inverse) .none kV7 dc7 pm7 an7 cd7 ct7), sl7⟩) (c7 : PySem.W.codeIn K cd7 "inverse" = true) (k7 : PySem.W.keepIn K (.ref f7) = true) {f8 : Addr} {od8 an8 : Option Addr} {sl8 : Array (Option Value)} {oc8 kV8 dc8 pm8 cd8 ct8 : Value} (a8 : PySem.W.nsIn K mainGlobals "power" = some (some (.ref f8))) (l8 : K.lookup f8 = some ⟨oc8, od8, .func (PySem.W.fnOf "power" "power" (defArgs s_power) (defBody s_power) (defScope s_power) .none kV8 dc8 pm8 an8 cd8 ct8), sl8⟩) (c8 : PySem.W.codeIn K cd8 "power" = true) (k8 : PySem.W.keepIn K (.ref f8) = true) {f9 : Addr} {od9 an9 : Option Addr} {sl9 : Array (Option Value)} {oc9 kV9 dc9 pm9 cd9 ct9 : Value} (a9 : PySem.W.nsIn K mainGlobals "square_root" = some (some (.ref f9))) (l9 : K.lookup f9 = some ⟨oc9, od9, .func (PySem.W.fnOf "square_root" "square_root" (defArgs s_square_root) (defBody s_square_root) (defScope s_square_root) .none kV9 dc9 pm9 an9 cd9 ct9), sl9⟩) (c9 : PySem.W.codeIn K cd9 "square_root" = true) (k9 : PySem.W.keepIn K (.ref f9) = true) {f10 : Addr} {od10 an10 : Option Addr} {sl10 : Array (Option Value)} {oc10 kV10 dc10 pm10 cd10 ct10 : Value} (a10 : PySem.W.nsIn K mainGlobals "prime_roots" = some (some (.ref f10))) (l10 : K.lookup f10 = some ⟨oc10, od10, .func (PySem.W.fnOf "prime_roots" "prime_roots" (defArgs s_prime_roots) (defBody s_prime_roots) (defScope s_prime_roots) .none kV10 dc10 pm10 an10 cd10 ct10), sl10⟩) (c10 : PySem.W.codeIn K cd10 "prime_roots" = true) (k10 : PySem.W.keepIn K (.ref f10) = true) {f11 : Addr} {od11 an11 : Option Addr} {sl11 : Array (Option Value)} {oc11 kV11 dc11 pm11 cd11 ct11 : Value} (a11 : PySem.W.nsIn K mainGlobals "law" = some (some (.ref f11))) (l11 : K.lookup f11 = some ⟨oc11, od11, .func (PySem.W.fnOf "law" "law" (defArgs s_law) (defBody s_law) (defScope s_law) .none kV11 dc11 pm11 an11 cd11 ct11), sl11⟩) (c11 : PySem.W.codeIn K cd11 "law" = true) (k11 : PySem.W.keepIn K (.ref f11) = true) (z0 : PySem.W.nsIn K mainGlobals "list" = some none) (z1 : PySem.W.nsIn K mainGlobals "int" = some none) (z2 : PySem.W.nsIn K mainGlobals "len" = some none) (z3 : PySem.W.nsIn K mainGlobals "abs" = some none) (z4 : PySem.W.nsIn K mainGlobals "isinstance" = some none) (z5 : PySem.W.nsIn K mainGlobals "str" = some none) (z6 : PySem.W.nsIn K mainGlobals "bool" = some none) (z7 : PySem.W.nsIn K mainGlobals "tuple" = some none) (z8 : PySem.W.nsIn K mainGlobals "all" = some none) (z9 : PySem.W.nsIn K mainGlobals "range" = some none) (z10 : PySem.W.nsIn K mainGlobals "sorted" = some none) (m0 : PySem.W.nsIn K mainGlobals "isqrt" = some (some (.builtin "math.isqrt"))) :
    ∃ fd : FuncData, (∀ (s : Shared) (v : Value), BindsTo s fd ⟨[v], []⟩ [("script", v)]) ∧ ∀ base : Heap, K.In base → base.Ns mainGlobals mg → FnOk l.prog w K mg base CX0 7 fa fd ["script"] (spS K 1 F_law) := by
  have e := hfa.symm.trans (PySem.W.mg_of X Gm a11)
  cases e
  have T0 := fun_mk (st := s__law_draw) l0 c0 k0
  have D__law_draw : DF K mg "_law_draw" s__law_draw ["script"] _ _ := ⟨T0, PySem.W.mg_of X Gm a0, T0.binds (ps := ["script"]) fun _ _ _ _ _ _ us hl => match us, hl with | [_], _ => rfl⟩
  have T1 := fun_mk (st := s_root_below) l1 c1 k1
  have D_root_below : DF K mg "root_below" s_root_below ["n"] _ _ := ⟨T1, PySem.W.mg_of X Gm a1, T1.binds (ps := ["n"]) fun _ _ _ _ _ _ us hl => match us, hl with | [_], _ => rfl⟩
  have T2 := fun_mk (st := s__law_primes_of) l2 c2 k2
  have D__law_primes_of : DF K mg "_law_primes_of" s__law_primes_of ["n"] _ _ := ⟨T2, PySem.W.mg_of X Gm a2, T2.binds (ps := ["n"]) fun _ _ _ _ _ _ us hl => match us, hl with | [_], _ => rfl⟩
  have T3 := fun_mk (st := s__law_next) l3 c3 k3
  have D__law_next : DF K mg "_law_next" s__law_next ["draw", "many"] _ _ := ⟨T3, PySem.W.mg_of X Gm a3, T3.binds (ps := ["draw", "many"]) fun _ _ _ _ _ _ us hl => match us, hl with | [_, _], _ => rfl⟩
  have T4 := fun_mk (st := s__law_same) l4 c4 k4
  have D__law_same : DF K mg "_law_same" s__law_same ["actual", "due"] _ _ := ⟨T4, PySem.W.mg_of X Gm a4, T4.binds (ps := ["actual", "due"]) fun _ _ _ _ _ _ us hl => match us, hl with | [_, _], _ => rfl⟩
  have T5 := fun_mk (st := s_is_square) l5 c5 k5
  have D_is_square : DF K mg "is_square" s_is_square ["n"] _ _ := ⟨T5, PySem.W.mg_of X Gm a5, T5.binds (ps := ["n"]) fun _ _ _ _ _ _ us hl => match us, hl with | [_], _ => rfl⟩
  have T6 := fun_mk (st := s_sign_at) l6 c6 k6
  have D_sign_at : DF K mg "sign_at" s_sign_at ["a", "n"] _ _ := ⟨T6, PySem.W.mg_of X Gm a6, T6.binds (ps := ["a", "n"]) fun _ _ _ _ _ _ us hl => match us, hl with | [_, _], _ => rfl⟩
  have T7 := fun_mk (st := s_inverse) l7 c7 k7
  have D_inverse : DF K mg "inverse" s_inverse ["a", "m"] _ _ := ⟨T7, PySem.W.mg_of X Gm a7, T7.binds (ps := ["a", "m"]) fun _ _ _ _ _ _ us hl => match us, hl with | [_, _], _ => rfl⟩
  have T8 := fun_mk (st := s_power) l8 c8 k8
  have D_power : DF K mg "power" s_power ["a", "k", "m"] _ _ := ⟨T8, PySem.W.mg_of X Gm a8, T8.binds (ps := ["a", "k", "m"]) fun _ _ _ _ _ _ us hl => match us, hl with | [_, _, _], _ => rfl⟩
  have T9 := fun_mk (st := s_square_root) l9 c9 k9
  have D_square_root : DF K mg "square_root" s_square_root ["a", "p"] _ _ := ⟨T9, PySem.W.mg_of X Gm a9, T9.binds (ps := ["a", "p"]) fun _ _ _ _ _ _ us hl => match us, hl with | [_, _], _ => rfl⟩
  have T10 := fun_mk (st := s_prime_roots) l10 c10 k10
  have D_prime_roots : DF K mg "prime_roots" s_prime_roots ["a", "p"] _ _ := ⟨T10, PySem.W.mg_of X Gm a10, T10.binds (ps := ["a", "p"]) fun _ _ _ _ _ _ us hl => match us, hl with | [_, _], _ => rfl⟩
  have T11 := fun_mk (st := s_law) l11 c11 k11
  have D_law : DF K mg "law" s_law ["script"] _ _ := ⟨T11, PySem.W.mg_of X Gm a11, T11.binds (ps := ["script"]) fun _ _ _ _ _ _ us hl => match us, hl with | [_], _ => rfl⟩
  refine ⟨PySem.W.fnOf "law" "law" (defArgs s_law) (defBody s_law) (defScope s_law) .none kV11 dc11 pm11 an11 cd11 ct11, fun s v => .of_eq rfl, fun base _ _ => ?_⟩
  have K__law_draw := ok__law_draw (P := l.prog) (w := w) (base := base) D__law_draw (PySem.W.mg_none_of X Gm z0)
  have K_root_below := ok_root_below (P := l.prog) (w := w) (base := base) D_root_below (PySem.W.mg_of X Gm m0)
  have K__law_primes_of := ok__law_primes_of (P := l.prog) (w := w) (base := base) D__law_primes_of
  have K__law_next := ok__law_next (P := l.prog) (w := w) (base := base) D__law_next (PySem.W.mg_none_of X Gm z1) (PySem.W.mg_none_of X Gm z2) (PySem.W.mg_none_of X Gm z3)
  have K__law_same := ok__law_same (P := l.prog) (w := w) (base := base) D__law_same (PySem.W.mg_none_of X Gm z4) (PySem.W.mg_none_of X Gm z1) (PySem.W.mg_none_of X Gm z5) (PySem.W.mg_none_of X Gm z6) (PySem.W.mg_none_of X Gm z7) (PySem.W.mg_none_of X Gm z0) (PySem.W.mg_none_of X Gm z8) (PySem.W.mg_none_of X Gm z9) (PySem.W.mg_none_of X Gm z2) 6
  have K_is_square := ok_is_square (P := l.prog) (w := w) (base := base) D_is_square (PySem.W.mg_of X Gm m0)
  have K_sign_at := ok_sign_at (P := l.prog) (w := w) (base := base) D_sign_at
  have K_inverse := ok_inverse (P := l.prog) (w := w) (base := base) D_inverse
  have K_power := ok_power (P := l.prog) (w := w) (base := base) D_power D_inverse K_inverse
  have K_square_root := ok_square_root (P := l.prog) (w := w) (base := base) D_square_root D_power K_power D_sign_at K_sign_at
  have K_prime_roots := ok_prime_roots (P := l.prog) (w := w) (base := base) D_prime_roots (PySem.W.mg_none_of X Gm z7) (PySem.W.mg_none_of X Gm z10) D_square_root K_square_root D_sign_at K_sign_at
  have K_law := ok_law (P := l.prog) (w := w) (base := base) D_law D__law_draw K__law_draw (PySem.W.mg_none_of X Gm z9) D__law_same K__law_same D_sign_at K_sign_at D__law_primes_of K__law_primes_of D__law_next K__law_next (PySem.W.mg_none_of X Gm z7) D_prime_roots K_prime_roots D_is_square K_is_square (PySem.W.mg_none_of X Gm z3) D_root_below K_root_below (PySem.W.mg_none_of X Gm z4) (PySem.W.mg_none_of X Gm z1)
  exact K_law
end NL

namespace NL
open PySem L2
/-- the state of the draws -/
def DrawOk (d : D) : Prop := ∃ (ns : List Int) (p r s : Int), d = .lst [.lst (ns.map .int), .int p, .int r, .int s] ∧ 0 ≤ p ∧ 0 ≤ s ∧ s < 2147483647
theorem next_ok {d : D} {many : Int} (hd : DrawOk d) (h0 : 0 < many) (h1 : many < 2 ^ 1000) : ∃ v d', F__law_next d [.int many] = some (.int v, d') ∧ 0 ≤ v ∧ v < many ∧ DrawOk d' := by
  obtain ⟨ns, p, r, s, rfl, hp, hs0, hs⟩ := hd
  have hdiv := divOk_of h0 h1
  have big : (2147483647 : Nat) ≤ 2 ^ 1000 := by decide
  have m1 : mulOk s 48271 = true := mulOk_of (by omega) (by decide)
  have pw : gPow (.int 10) (.int 18) = some (.int 1000000000000000000) := by rfl
  have go : ∀ (t : Int) (h0 : 0 ≤ t) (h1 : t < 2147483647), mulOk t 69621 = true := fun t h0 h1 => mulOk_of (by omega) (by decide)
  unfold F__law_next runI
  rw [show startE (4 - 1) [.int many] = [.sh (.int many), .no, .no] from rfl]
  unfold b__law_next
  by_cases hr : 0 < r
  · refine ⟨r % many, .lst [.lst (ns.map .int), .int p, .int (r / many), .int s], ?_, Int.emod_nonneg _ (by omega), Int.emod_lt_of_pos _ h0, ⟨ns, p, _, s, rfl, hp, hs0, hs⟩⟩
    simp [sSeq, sAsg, sOp, sVar, gName, deref, derefs, getS, force, forces, sTup, sForces, sCons, sNil, gTup, gsCons, gsNil, storeS, storable, sC, sCallB, one, two, sIfS, sTB, sTruth, truth, sRet, sRetN, sSkip, sDrop, sIf, sOr, sAnd, sNot, sAndV, sOrV, sNotV, sUn, sChain, sGive, fLst, fList, fCall, sOwn, sCall, sCallI, owned, ownedL, gSet, upS, set_1, set_2, set_3, hLen_l, hLen_t, sAppend, apD, sPop, small0, small1, small2, small3, small4, small5, gLt, gLe, gGt, gGe, gAdd, gSub, gNeg, gEq_ii, gNe_ii, hAbs, hInt, gIx_l, gIx_t, gIx_f, atI_0, atI_1, atI_2, atI_3, Option.bind_some, Option.bind_none, List.getElem?_cons_zero, List.getElem?_cons_succ, List.getElem?_nil, List.set_cons_zero, List.set_cons_succ, List.length_cons, List.length_nil, if_true, if_false, Bool.not_true, Bool.not_false, Bool.false_eq_true, reduceIte, ite_true, ite_false, hr, gMod_pos h0, gDiv_pos hdiv, ioOf]
  · by_cases hl : p < ns.length
    · have hat : atI (ns.map D.int) p = some (.int (ns[p.toNat]'(by omega))) := by
        rw [atI_nat' hp (by rw [List.length_map]; exact hl), List.getElem?_map, List.getElem?_eq_getElem (by omega)]; rfl
      generalize ns[p.toNat]'(by omega) = z at hat
      generalize hc : (if z < 0 then -z else z) = c
      by_cases hb : (1000000000000000000 : Int) ≤ c
      · refine ⟨c % many, .lst [.lst (ns.map .int), .int (p + 1), .int (c / many), .int s], ?_, Int.emod_nonneg _ (by omega), Int.emod_lt_of_pos _ h0, ⟨ns, _, _, s, rfl, by omega, hs0, hs⟩⟩
        simp [sSeq, sAsg, sOp, sVar, gName, deref, derefs, getS, force, forces, sTup, sForces, sCons, sNil, gTup, gsCons, gsNil, storeS, storable, sC, sCallB, one, two, sIfS, sTB, sTruth, truth, sRet, sRetN, sSkip, sDrop, sIf, sOr, sAnd, sNot, sAndV, sOrV, sNotV, sUn, sChain, sGive, fLst, fList, fCall, sOwn, sCall, sCallI, owned, ownedL, gSet, upS, set_1, set_2, set_3, hLen_l, hLen_t, sAppend, apD, sPop, small0, small1, small2, small3, small4, small5, gLt, gLe, gGt, gGe, gAdd, gSub, gNeg, gEq_ii, gNe_ii, hAbs, hInt, gIx_l, gIx_t, gIx_f, atI_0, atI_1, atI_2, atI_3, Option.bind_some, Option.bind_none, List.getElem?_cons_zero, List.getElem?_cons_succ, List.getElem?_nil, List.set_cons_zero, List.set_cons_succ, List.length_cons, List.length_nil, if_true, if_false, Bool.not_true, Bool.not_false, Bool.false_eq_true, reduceIte, ite_true, ite_false, hr, hl, hat, hc, hb, pw, gMod_pos h0, gDiv_pos hdiv, ioOf]
      · have hq := Int.emod_nonneg (s * 48271 + c + 11) (show (2147483647 : Int) ≠ 0 by decide)
        have hq2 := Int.emod_lt_of_pos (s * 48271 + c + 11) (show (0 : Int) < 2147483647 by decide)
        have m2 := go _ hq hq2
        refine ⟨(s * 48271 + c + 11) % 2147483647 * 69621 % 2147483629 / 7 % many, .lst [.lst (ns.map .int), .int (p + 1), .int r, .int ((s * 48271 + c + 11) % 2147483647)], ?_, ?_, ?_, ⟨ns, _, _, _, rfl, by omega, hq, hq2⟩⟩
        · simp [sSeq, sAsg, sOp, sVar, gName, deref, derefs, getS, force, forces, sTup, sForces, sCons, sNil, gTup, gsCons, gsNil, storeS, storable, sC, sCallB, one, two, sIfS, sTB, sTruth, truth, sRet, sRetN, sSkip, sDrop, sIf, sOr, sAnd, sNot, sAndV, sOrV, sNotV, sUn, sChain, sGive, fLst, fList, fCall, sOwn, sCall, sCallI, owned, ownedL, gSet, upS, set_1, set_2, set_3, hLen_l, hLen_t, sAppend, apD, sPop, small0, small1, small2, small3, small4, small5, gLt, gLe, gGt, gGe, gAdd, gSub, gNeg, gEq_ii, gNe_ii, hAbs, hInt, gIx_l, gIx_t, gIx_f, atI_0, atI_1, atI_2, atI_3, Option.bind_some, Option.bind_none, List.getElem?_cons_zero, List.getElem?_cons_succ, List.getElem?_nil, List.set_cons_zero, List.set_cons_succ, List.length_cons, List.length_nil, if_true, if_false, Bool.not_true, Bool.not_false, Bool.false_eq_true, reduceIte, ite_true, ite_false, hr, hl, hat, hc, hb, pw, gMod_pos, gMul_ok m1, gMul_ok m2, h0, gDiv_pos hdiv, gDiv_pos (show divOk 7 = true by decide), ioOf]
        · exact Int.emod_nonneg _ (by omega)
        · exact Int.emod_lt_of_pos _ h0
    · have hq := Int.emod_nonneg (s * 48271 + 12345) (show (2147483647 : Int) ≠ 0 by decide)
      have hq2 := Int.emod_lt_of_pos (s * 48271 + 12345) (show (0 : Int) < 2147483647 by decide)
      have m2 := go _ hq hq2
      refine ⟨(s * 48271 + 12345) % 2147483647 * 69621 % 2147483629 / 7 % many, .lst [.lst (ns.map .int), .int p, .int r, .int ((s * 48271 + 12345) % 2147483647)], ?_, ?_, ?_, ⟨ns, _, _, _, rfl, hp, hq, hq2⟩⟩
      · simp [sSeq, sAsg, sOp, sVar, gName, deref, derefs, getS, force, forces, sTup, sForces, sCons, sNil, gTup, gsCons, gsNil, storeS, storable, sC, sCallB, one, two, sIfS, sTB, sTruth, truth, sRet, sRetN, sSkip, sDrop, sIf, sOr, sAnd, sNot, sAndV, sOrV, sNotV, sUn, sChain, sGive, fLst, fList, fCall, sOwn, sCall, sCallI, owned, ownedL, gSet, upS, set_1, set_2, set_3, hLen_l, hLen_t, sAppend, apD, sPop, small0, small1, small2, small3, small4, small5, gLt, gLe, gGt, gGe, gAdd, gSub, gNeg, gEq_ii, gNe_ii, hAbs, hInt, gIx_l, gIx_t, gIx_f, atI_0, atI_1, atI_2, atI_3, Option.bind_some, Option.bind_none, List.getElem?_cons_zero, List.getElem?_cons_succ, List.getElem?_nil, List.set_cons_zero, List.set_cons_succ, List.length_cons, List.length_nil, if_true, if_false, Bool.not_true, Bool.not_false, Bool.false_eq_true, reduceIte, ite_true, ite_false, hr, hl, pw, gMod_pos, gMul_ok m1, gMul_ok m2, h0, gDiv_pos hdiv, gDiv_pos (show divOk 7 = true by decide), ioOf]
      · exact Int.emod_nonneg _ (by omega)
      · exact Int.emod_lt_of_pos _ h0
end NL

namespace NL
open PySem L2
/-! the sign, natively -/
def strip (n : Nat) : Nat → Nat → Int → Option (Nat × Int)
  | 0, _, _ => none
  | fu + 1, a, f => if a % 2 = 0 then strip n fu (a / 2) (if n % 8 = 3 ∨ n % 8 = 5 then -f else f) else some (a, f)
def jac : Nat → Nat → Nat → Int → Option Int
  | 0, _, _, _ => none
  | fu + 1, a, n, f => if a = 0 then some (if n = 1 then f else 0) else (strip n 12 a f).bind fun x => jac fu (n % x.1) x.1 (if n % 4 = 3 ∧ x.1 % 4 = 3 then -x.2 else x.2)
abbrev jC : SemB := sTB (sOp gEq (sOp gMod (sVar 0) (sC (.int 2))) (sC (.int 0)))
abbrev jB : SemS := (sSeq (sAsg (sOp gDiv (sVar 0) (sC (.int 2))) (gName 0))
    (sIfS (sTB (sOp gIn (sOp gMod (sVar 1) (sC (.int 8))) (sTup (sCons (sC (.int 3)) (sCons (sC (.int 5)) sNil))))) (sAsg (sUn gNeg (sVar 2)) (gName 2)) sSkip))
theorem in35 {x : Int} : gIn (.int x) (.tup [.int 3, .int 5]) = some (.bl (eqF (.int 3) (.int x) || (eqF (.int 5) (.int x) || false))) := by rfl
theorem eqF_ii {x y : Int} : eqF (.int x) (.int y) = (x == y) := rfl
theorem strip_ok {n : Nat} (hn : n ≤ 1000) : ∀ (fu a : Nat) (f : Int) (r : Nat × Int), a ≤ 1000 → strip n fu a f = some r → r.1 ≤ a ∧ r.1 % 2 = 1 ∧ ∀ F, fu ≤ F → whileL jC jB F [.sh (.int (a : Int)), .sh (.int (n : Int)), .sh (.int f)] = some (.nx [.sh (.int (r.1 : Int)), .sh (.int (n : Int)), .sh (.int r.2)])
  | 0, a, f, r, ha, h => by cases h
  | fu + 1, a, f, r, ha, h => by
    rw [strip] at h
    have c2 : ((a / 2 : Nat) : Int) = (a : Int) / 2 := by simp
    split at h
    · rename_i h2
      have hz : (a : Int) % 2 = 0 := by omega
      obtain ⟨i1, i2, i3⟩ := strip_ok hn fu (a / 2) _ r (by omega) h
      refine ⟨by omega, i2, fun F hF => ?_⟩
      obtain ⟨F, rfl⟩ : ∃ G, F = G + 1 := ⟨F - 1, by omega⟩
      have ih := i3 F (by omega)
      rw [c2] at ih
      have t1 : jC [.sh (.int (a : Int)), .sh (.int (n : Int)), .sh (.int f)] = some (true, [.sh (.int (a : Int)), .sh (.int (n : Int)), .sh (.int f)]) := by
        simp [sSeq, sAsg, sOp, sVar, gName, deref, derefs, getS, force, forces, sTup, sForces, sCons, sNil, gTup, gsCons, gsNil, storeS, storable, sC, sCallB, one, two, sIfS, sTB, sTruth, truth, sRet, sRetN, sSkip, sDrop, sIf, sOr, sAnd, sNot, sAndV, sOrV, sNotV, sUn, sChain, sGive, fLst, fList, fCall, sOwn, sCall, sCallI, owned, ownedL, gSet, upS, set_1, set_2, set_3, hLen_l, hLen_t, sAppend, apD, sPop, small0, small1, small2, small3, small4, small5, gLt, gLe, gGt, gGe, gAdd, gSub, gNeg, gEq_ii, gNe_ii, hAbs, hInt, gIx_l, gIx_t, gIx_f, atI_0, atI_1, atI_2, atI_3, Option.bind_some, Option.bind_none, List.getElem?_cons_zero, List.getElem?_cons_succ, List.getElem?_nil, List.set_cons_zero, List.set_cons_succ, List.length_cons, List.length_nil, if_true, if_false, Bool.not_true, Bool.not_false, Bool.false_eq_true, reduceIte, ite_true, ite_false, gMod_pos, hz]
      have t2 : jB [.sh (.int (a : Int)), .sh (.int (n : Int)), .sh (.int f)] = some (.nx [.sh (.int ((a : Int) / 2)), .sh (.int (n : Int)), .sh (.int (if n % 8 = 3 ∨ n % 8 = 5 then -f else f))]) := by
        have d2 : divOk 2 = true := by decide
        by_cases q : n % 8 = 3 ∨ n % 8 = 5
        · rw [if_pos q]
          have hq : (((3 : Int) == (n : Int) % 8) || (((5 : Int) == (n : Int) % 8) || false)) = true := by
            simp only [Bool.or_false, Bool.or_eq_true, beq_iff_eq]; omega
          simp only [sSeq, sAsg, sOp, sVar, gName, deref, derefs, getS, force, forces, sTup, sForces, sCons, sNil, gTup, gsCons, gsNil, storeS, storable, sC, sCallB, one, two, sIfS, sTB, sTruth, truth, sRet, sRetN, sSkip, sDrop, sIf, sOr, sAnd, sNot, sAndV, sOrV, sNotV, sUn, sChain, sGive, fLst, fList, fCall, sOwn, sCall, sCallI, owned, ownedL, gSet, upS, set_1, set_2, set_3, hLen_l, hLen_t, sAppend, apD, sPop, small0, small1, small2, small3, small4, small5, gLt, gLe, gGt, gGe, gAdd, gSub, gNeg, gEq_ii, gNe_ii, hAbs, hInt, gIx_l, gIx_t, gIx_f, atI_0, atI_1, atI_2, atI_3, Option.bind_some, Option.bind_none, List.getElem?_cons_zero, List.getElem?_cons_succ, List.getElem?_nil, List.set_cons_zero, List.set_cons_succ, List.length_cons, List.length_nil, if_true, if_false, Bool.not_true, Bool.not_false, Bool.false_eq_true, reduceIte, ite_true, ite_false, gMod_pos, gDiv_pos d2, in35, eqF_ii, hq, show (0 : Int) < 8 by decide, show (0 : Int) < 2 by decide]
        · rw [if_neg q]
          have hq : (((3 : Int) == (n : Int) % 8) || (((5 : Int) == (n : Int) % 8) || false)) = false := by
            simp only [Bool.or_false, Bool.or_eq_false_iff, beq_eq_false_iff_ne, ne_eq]; omega
          simp only [sSeq, sAsg, sOp, sVar, gName, deref, derefs, getS, force, forces, sTup, sForces, sCons, sNil, gTup, gsCons, gsNil, storeS, storable, sC, sCallB, one, two, sIfS, sTB, sTruth, truth, sRet, sRetN, sSkip, sDrop, sIf, sOr, sAnd, sNot, sAndV, sOrV, sNotV, sUn, sChain, sGive, fLst, fList, fCall, sOwn, sCall, sCallI, owned, ownedL, gSet, upS, set_1, set_2, set_3, hLen_l, hLen_t, sAppend, apD, sPop, small0, small1, small2, small3, small4, small5, gLt, gLe, gGt, gGe, gAdd, gSub, gNeg, gEq_ii, gNe_ii, hAbs, hInt, gIx_l, gIx_t, gIx_f, atI_0, atI_1, atI_2, atI_3, Option.bind_some, Option.bind_none, List.getElem?_cons_zero, List.getElem?_cons_succ, List.getElem?_nil, List.set_cons_zero, List.set_cons_succ, List.length_cons, List.length_nil, if_true, if_false, Bool.not_true, Bool.not_false, Bool.false_eq_true, reduceIte, ite_true, ite_false, gMod_pos, gDiv_pos d2, in35, eqF_ii, hq, show (0 : Int) < 8 by decide, show (0 : Int) < 2 by decide]
      rw [whileL, t1, Option.bind_some]
      simp only [if_true, t2, Option.bind_some]
      exact ih
    · rename_i h2
      cases h
      refine ⟨Nat.le_refl _, by omega, fun F hF => ?_⟩
      obtain ⟨F, rfl⟩ : ∃ G, F = G + 1 := ⟨F - 1, by omega⟩
      have hz : (((a : Int) % 2 == 0) : Bool) = false := by simp only [beq_eq_false_iff_ne, ne_eq]; omega
      have t1 : jC [.sh (.int (a : Int)), .sh (.int (n : Int)), .sh (.int f)] = some (false, [.sh (.int (a : Int)), .sh (.int (n : Int)), .sh (.int f)]) := by
        simp only [sSeq, sAsg, sOp, sVar, gName, deref, derefs, getS, force, forces, sTup, sForces, sCons, sNil, gTup, gsCons, gsNil, storeS, storable, sC, sCallB, one, two, sIfS, sTB, sTruth, truth, sRet, sRetN, sSkip, sDrop, sIf, sOr, sAnd, sNot, sAndV, sOrV, sNotV, sUn, sChain, sGive, fLst, fList, fCall, sOwn, sCall, sCallI, owned, ownedL, gSet, upS, set_1, set_2, set_3, hLen_l, hLen_t, sAppend, apD, sPop, small0, small1, small2, small3, small4, small5, gLt, gLe, gGt, gGe, gAdd, gSub, gNeg, gEq_ii, gNe_ii, hAbs, hInt, gIx_l, gIx_t, gIx_f, atI_0, atI_1, atI_2, atI_3, Option.bind_some, Option.bind_none, List.getElem?_cons_zero, List.getElem?_cons_succ, List.getElem?_nil, List.set_cons_zero, List.set_cons_succ, List.length_cons, List.length_nil, if_true, if_false, Bool.not_true, Bool.not_false, Bool.false_eq_true, reduceIte, ite_true, ite_false, gMod_pos, show (0 : Int) < 2 by decide, hz]
      rw [whileL, t1, Option.bind_some]
      rfl
abbrev kC : SemB := sTB (sOp gNe (sVar 0) (sC (.int 0)))
abbrev kB : SemS := (sSeq (sWhile jC jB)
    (sSeq (sAsg (sTup (sCons (sVar 1) (sCons (sVar 0) sNil))) (gTup 2 (gsCons (gName 0) (gsCons (gName 1) gsNil))))
    (sSeq (sIfS (sAnd (sTB (sOp gEq (sOp gMod (sVar 0) (sC (.int 4))) (sC (.int 3)))) (sTB (sOp gEq (sOp gMod (sVar 1) (sC (.int 4))) (sC (.int 3))))) (sAsg (sUn gNeg (sVar 2)) (gName 2)) sSkip)
    (sAsg (sOp gMod (sVar 0) (sVar 1)) (gName 0)))))
theorem jac_ok : ∀ (fu a n : Nat) (f r : Int), a ≤ 1000 → n ≤ 1000 → jac fu a n f = some r → ∃ (n' : Nat) (f' : Int), r = (if n' = 1 then f' else 0) ∧ ∀ F, fu ≤ F → whileL kC kB F [.sh (.int (a : Int)), .sh (.int (n : Int)), .sh (.int f)] = some (.nx [.sh (.int 0), .sh (.int (n' : Int)), .sh (.int f')])
  | 0, a, n, f, r, ha, hn, h => by cases h
  | fu + 1, a, n, f, r, ha, hn, h => by
    rw [jac] at h
    split at h
    · rename_i h0
      cases h
      subst h0
      refine ⟨n, f, rfl, fun F hF => ?_⟩
      obtain ⟨F, rfl⟩ : ∃ G, F = G + 1 := ⟨F - 1, by omega⟩
      rfl
    · rename_i h0
      obtain ⟨x, h1, h⟩ := Option.bind_eq_some_iff.mp h
      obtain ⟨i1, i2, i3⟩ := strip_ok hn 12 a f x ha h1
      obtain ⟨n', f', e, ih⟩ := jac_ok fu (n % x.1) x.1 _ r (by have := Nat.mod_le n x.1; omega) (by omega) h
      refine ⟨n', f', e, fun F hF => ?_⟩
      obtain ⟨F, rfl⟩ : ∃ G, F = G + 1 := ⟨F - 1, by omega⟩
      have ih := ih F (by omega)
      have hx : (0 : Int) < (x.1 : Int) := by omega
      have c2 : ((n % x.1 : Nat) : Int) = (n : Int) % x.1 := by simp
      rw [c2] at ih
      have t1 : kC [.sh (.int (a : Int)), .sh (.int (n : Int)), .sh (.int f)] = some (true, [.sh (.int (a : Int)), .sh (.int (n : Int)), .sh (.int f)]) := by
        have : ¬ (a : Int) = 0 := by omega
        simp [sSeq, sAsg, sOp, sVar, gName, deref, derefs, getS, force, forces, sTup, sForces, sCons, sNil, gTup, gsCons, gsNil, storeS, storable, sC, sCallB, one, two, sIfS, sTB, sTruth, truth, sRet, sRetN, sSkip, sDrop, sIf, sOr, sAnd, sNot, sAndV, sOrV, sNotV, sUn, sChain, sGive, fLst, fList, fCall, sOwn, sCall, sCallI, owned, ownedL, gSet, upS, set_1, set_2, set_3, hLen_l, hLen_t, sAppend, apD, sPop, small0, small1, small2, small3, small4, small5, gLt, gLe, gGt, gGe, gAdd, gSub, gNeg, gEq_ii, gNe_ii, hAbs, hInt, gIx_l, gIx_t, gIx_f, atI_0, atI_1, atI_2, atI_3, Option.bind_some, Option.bind_none, List.getElem?_cons_zero, List.getElem?_cons_succ, List.getElem?_nil, List.set_cons_zero, List.set_cons_succ, List.length_cons, List.length_nil, if_true, if_false, Bool.not_true, Bool.not_false, Bool.false_eq_true, reduceIte, ite_true, ite_false, this, h0]
      have t2 : kB [.sh (.int (a : Int)), .sh (.int (n : Int)), .sh (.int f)] = some (.nx [.sh (.int ((n : Int) % x.1)), .sh (.int (x.1 : Int)), .sh (.int (if n % 4 = 3 ∧ x.1 % 4 = 3 then -x.2 else x.2))]) := by
        rw [kB, sSeq, sWhile, i3 FUEL (by unfold FUEL; omega), Option.bind_some]
        dsimp only
        by_cases q1 : n % 4 = 3
        · have q1' : (n : Int) % 4 = 3 := by omega
          by_cases q2 : x.1 % 4 = 3
          · have q2' : (x.1 : Int) % 4 = 3 := by omega
            rw [if_pos ⟨q1, q2⟩]
            simp [sSeq, sAsg, sOp, sVar, gName, deref, derefs, getS, force, forces, sTup, sForces, sCons, sNil, gTup, gsCons, gsNil, storeS, storable, sC, sCallB, one, two, sIfS, sTB, sTruth, truth, sRet, sRetN, sSkip, sDrop, sIf, sOr, sAnd, sNot, sAndV, sOrV, sNotV, sUn, sChain, sGive, fLst, fList, fCall, sOwn, sCall, sCallI, owned, ownedL, gSet, upS, set_1, set_2, set_3, hLen_l, hLen_t, sAppend, apD, sPop, small0, small1, small2, small3, small4, small5, gLt, gLe, gGt, gGe, gAdd, gSub, gNeg, gEq_ii, gNe_ii, hAbs, hInt, gIx_l, gIx_t, gIx_f, atI_0, atI_1, atI_2, atI_3, Option.bind_some, Option.bind_none, List.getElem?_cons_zero, List.getElem?_cons_succ, List.getElem?_nil, List.set_cons_zero, List.set_cons_succ, List.length_cons, List.length_nil, if_true, if_false, Bool.not_true, Bool.not_false, Bool.false_eq_true, reduceIte, ite_true, ite_false, gMod_pos, gMod_pos hx, q1', q2']
          · have q2' : ¬ (x.1 : Int) % 4 = 3 := by omega
            rw [if_neg (fun z => q2 z.2)]
            simp [sSeq, sAsg, sOp, sVar, gName, deref, derefs, getS, force, forces, sTup, sForces, sCons, sNil, gTup, gsCons, gsNil, storeS, storable, sC, sCallB, one, two, sIfS, sTB, sTruth, truth, sRet, sRetN, sSkip, sDrop, sIf, sOr, sAnd, sNot, sAndV, sOrV, sNotV, sUn, sChain, sGive, fLst, fList, fCall, sOwn, sCall, sCallI, owned, ownedL, gSet, upS, set_1, set_2, set_3, hLen_l, hLen_t, sAppend, apD, sPop, small0, small1, small2, small3, small4, small5, gLt, gLe, gGt, gGe, gAdd, gSub, gNeg, gEq_ii, gNe_ii, hAbs, hInt, gIx_l, gIx_t, gIx_f, atI_0, atI_1, atI_2, atI_3, Option.bind_some, Option.bind_none, List.getElem?_cons_zero, List.getElem?_cons_succ, List.getElem?_nil, List.set_cons_zero, List.set_cons_succ, List.length_cons, List.length_nil, if_true, if_false, Bool.not_true, Bool.not_false, Bool.false_eq_true, reduceIte, ite_true, ite_false, gMod_pos, gMod_pos hx, q1', q2']
        · have q1' : ¬ (n : Int) % 4 = 3 := by omega
          rw [if_neg (fun z => q1 z.1)]
          simp [sSeq, sAsg, sOp, sVar, gName, deref, derefs, getS, force, forces, sTup, sForces, sCons, sNil, gTup, gsCons, gsNil, storeS, storable, sC, sCallB, one, two, sIfS, sTB, sTruth, truth, sRet, sRetN, sSkip, sDrop, sIf, sOr, sAnd, sNot, sAndV, sOrV, sNotV, sUn, sChain, sGive, fLst, fList, fCall, sOwn, sCall, sCallI, owned, ownedL, gSet, upS, set_1, set_2, set_3, hLen_l, hLen_t, sAppend, apD, sPop, small0, small1, small2, small3, small4, small5, gLt, gLe, gGt, gGe, gAdd, gSub, gNeg, gEq_ii, gNe_ii, hAbs, hInt, gIx_l, gIx_t, gIx_f, atI_0, atI_1, atI_2, atI_3, Option.bind_some, Option.bind_none, List.getElem?_cons_zero, List.getElem?_cons_succ, List.getElem?_nil, List.set_cons_zero, List.set_cons_succ, List.length_cons, List.length_nil, if_true, if_false, Bool.not_true, Bool.not_false, Bool.false_eq_true, reduceIte, ite_true, ite_false, gMod_pos, gMod_pos hx, q1']
      rw [whileL, t1, Option.bind_some]
      simp only [if_true, t2, Option.bind_some]
      exact ih
theorem sign_ok {a : Int} {n : Nat} {r : Int} (hn : 0 < n) (hn2 : n ≤ 1000) (h : jac 50 (a % n).toNat n 1 = some r) : F_sign_at [.int a, .int (n : Int)] = some (.int r) := by
  have hm0 : 0 ≤ a % (n : Int) := Int.emod_nonneg _ (by omega)
  have hm1 : a % (n : Int) < n := Int.emod_lt_of_pos _ (by omega)
  obtain ⟨n', f', e, hw⟩ := jac_ok 50 (a % n).toNat n 1 r (by omega) hn2 h
  have hw := hw FUEL (by unfold FUEL; omega)
  rw [show (((a % (n : Int)).toNat : Nat) : Int) = a % n by omega] at hw
  unfold F_sign_at runF
  rw [show startE 3 [.int a, .int (n : Int)] = [.sh (.int a), .sh (.int (n : Int)), .no] from rfl]
  unfold b_sign_at
  have hp : (0 : Int) < n := by omega
  have e1 : sAsg (sOp gMod (sVar 0) (sVar 1)) (gName 0) [.sh (.int a), .sh (.int (n : Int)), .no] = some (.nx [.sh (.int (a % n)), .sh (.int (n : Int)), .no]) := by simp [sSeq, sAsg, sOp, sVar, gName, deref, derefs, getS, force, forces, sTup, sForces, sCons, sNil, gTup, gsCons, gsNil, storeS, storable, sC, sCallB, one, two, sIfS, sTB, sTruth, truth, sRet, sRetN, sSkip, sDrop, sIf, sOr, sAnd, sNot, sAndV, sOrV, sNotV, sUn, sChain, sGive, fLst, fList, fCall, sOwn, sCall, sCallI, owned, ownedL, gSet, upS, set_1, set_2, set_3, hLen_l, hLen_t, sAppend, apD, sPop, small0, small1, small2, small3, small4, small5, gLt, gLe, gGt, gGe, gAdd, gSub, gNeg, gEq_ii, gNe_ii, hAbs, hInt, gIx_l, gIx_t, gIx_f, atI_0, atI_1, atI_2, atI_3, Option.bind_some, Option.bind_none, List.getElem?_cons_zero, List.getElem?_cons_succ, List.getElem?_nil, List.set_cons_zero, List.set_cons_succ, List.length_cons, List.length_nil, if_true, if_false, Bool.not_true, Bool.not_false, Bool.false_eq_true, reduceIte, ite_true, ite_false, gMod_pos hp]
  rw [sSeq, e1, Option.bind_some]
  dsimp only
  rw [sSeq, show sAsg (sC (.int 1)) (gName 2) [.sh (.int (a % n)), .sh (.int (n : Int)), .no] = some (.nx [.sh (.int (a % n)), .sh (.int (n : Int)), .sh (.int 1)]) from rfl, Option.bind_some]
  dsimp only
  rw [sSeq, sWhile]
  rw [show whileL (sTB (sOp gNe (sVar 0) (sC (.int 0)))) _ FUEL _ = _ from hw, Option.bind_some]
  dsimp only
  rw [e]
  by_cases q : n' = 1
  · subst q; rfl
  · have q' : ¬ (n' : Int) = 1 := by omega
    rw [if_neg q]
    simp [sSeq, sAsg, sOp, sVar, gName, deref, derefs, getS, force, forces, sTup, sForces, sCons, sNil, gTup, gsCons, gsNil, storeS, storable, sC, sCallB, one, two, sIfS, sTB, sTruth, truth, sRet, sRetN, sSkip, sDrop, sIf, sOr, sAnd, sNot, sAndV, sOrV, sNotV, sUn, sChain, sGive, fLst, fList, fCall, sOwn, sCall, sCallI, owned, ownedL, gSet, upS, set_1, set_2, set_3, hLen_l, hLen_t, sAppend, apD, sPop, small0, small1, small2, small3, small4, small5, gLt, gLe, gGt, gGe, gAdd, gSub, gNeg, gEq_ii, gNe_ii, hAbs, hInt, gIx_l, gIx_t, gIx_f, atI_0, atI_1, atI_2, atI_3, Option.bind_some, Option.bind_none, List.getElem?_cons_zero, List.getElem?_cons_succ, List.getElem?_nil, List.set_cons_zero, List.set_cons_succ, List.length_cons, List.length_nil, if_true, if_false, Bool.not_true, Bool.not_false, Bool.false_eq_true, reduceIte, ite_true, ite_false, q']
end NL

namespace NL
open PySem L2
def pdiv (t : Nat) : Nat → Nat → List Nat → Option (Nat × List Nat)
  | 0, _, _ => none
  | fu + 1, n, acc => if n % t = 0 then (if acc.length < 100 then pdiv t fu (n / t) (acc ++ [t]) else none) else some (n, acc)
def pout : Nat → Nat → Nat → List Nat → Option (List Nat)
  | 0, _, _, _ => none
  | fu + 1, n, t, acc => if 1 < n then (pdiv t 12 n acc).bind fun x => pout fu x.1 (t + 1) x.2 else some acc
def prs (n : Nat) : List Nat := (pout 300 n 2 []).getD []
abbrev intD (l : List Nat) : List D := l.map fun t : Nat => D.int (t : Int)
abbrev pC : SemB := sTB (sOp gEq (sOp gMod (sVar 0) (sVar 2)) (sC (.int 0)))
abbrev pB : SemS := (sSeq (sAsg (sOp gDiv (sVar 0) (sVar 2)) (gName 0))
    (sDrop (sAppend 1 (sVar 2))))
theorem pdiv_ok {t : Nat} (ht : 0 < t) (ht2 : t ≤ 1000) : ∀ (fu n : Nat) (acc : List Nat) (r : Nat × List Nat), pdiv t fu n acc = some r → ∀ F, fu ≤ F → whileL pC pB F [.sh (.int (n : Int)), .ow (.lst (intD acc)), .sh (.int (t : Int))] = some (.nx [.sh (.int (r.1 : Int)), .ow (.lst (intD r.2)), .sh (.int (t : Int))])
  | 0, n, acc, r, h => by cases h
  | fu + 1, n, acc, r, h => fun F hF => by
    obtain ⟨F, rfl⟩ : ∃ G, F = G + 1 := ⟨F - 1, by omega⟩
    rw [pdiv] at h
    have hti : (0 : Int) < (t : Int) := by omega
    have c2 : ((n / t : Nat) : Int) = (n : Int) / t := by simp
    have c3 : ((n % t : Nat) : Int) = (n : Int) % t := by simp
    have dt : divOk t = true := divOk_of hti (Int.lt_trans (show (t : Int) < 1001 by omega) (by decide))
    split at h
    · rename_i h1
      split at h
      · rename_i h2
        have ih := pdiv_ok ht ht2 fu (n / t) (acc ++ [t]) r h F (by omega)
        have hz : (n : Int) % t = 0 := by omega
        have hl : (intD acc).length < sizeLine := by
          rw [List.length_map]; exact Nat.lt_trans h2 (by show 100 < 2 ^ 24; decide)
        have t1 : pC [.sh (.int (n : Int)), .ow (.lst (intD acc)), .sh (.int (t : Int))] = some (true, [.sh (.int (n : Int)), .ow (.lst (intD acc)), .sh (.int (t : Int))]) := by
          simp only [sSeq, sAsg, sOp, sVar, gName, deref, derefs, getS, force, forces, sTup, sForces, sCons, sNil, gTup, gsCons, gsNil, storeS, storable, sC, sCallB, one, two, sIfS, sTB, sTruth, truth, sRet, sRetN, sSkip, sDrop, sIf, sOr, sAnd, sNot, sAndV, sOrV, sNotV, sUn, sChain, sGive, fLst, fList, fCall, sOwn, sCall, sCallI, owned, ownedL, gSet, upS, set_1, set_2, set_3, hLen_l, hLen_t, sAppend, apD, sPop, small0, small1, small2, small3, small4, small5, gLt, gLe, gGt, gGe, gAdd, gSub, gNeg, gEq_ii, gNe_ii, hAbs, hInt, gIx_l, gIx_t, gIx_f, atI_0, atI_1, atI_2, atI_3, Option.bind_some, Option.bind_none, List.getElem?_cons_zero, List.getElem?_cons_succ, List.getElem?_nil, List.set_cons_zero, List.set_cons_succ, List.length_cons, List.length_nil, if_true, if_false, Bool.not_true, Bool.not_false, Bool.false_eq_true, reduceIte, ite_true, ite_false, gMod_pos hti, hz, BEq.rfl]
        have t2 : pB [.sh (.int (n : Int)), .ow (.lst (intD acc)), .sh (.int (t : Int))] = some (.nx [.sh (.int ((n : Int) / t)), .ow (.lst (intD acc ++ [.int (t : Int)])), .sh (.int (t : Int))]) := by
          simp only [sSeq, sAsg, sOp, sVar, gName, deref, derefs, getS, force, forces, sTup, sForces, sCons, sNil, gTup, gsCons, gsNil, storeS, storable, sC, sCallB, one, two, sIfS, sTB, sTruth, truth, sRet, sRetN, sSkip, sDrop, sIf, sOr, sAnd, sNot, sAndV, sOrV, sNotV, sUn, sChain, sGive, fLst, fList, fCall, sOwn, sCall, sCallI, owned, ownedL, gSet, upS, set_1, set_2, set_3, hLen_l, hLen_t, sAppend, apD, sPop, small0, small1, small2, small3, small4, small5, gLt, gLe, gGt, gGe, gAdd, gSub, gNeg, gEq_ii, gNe_ii, hAbs, hInt, gIx_l, gIx_t, gIx_f, atI_0, atI_1, atI_2, atI_3, Option.bind_some, Option.bind_none, List.getElem?_cons_zero, List.getElem?_cons_succ, List.getElem?_nil, List.set_cons_zero, List.set_cons_succ, List.length_cons, List.length_nil, if_true, if_false, Bool.not_true, Bool.not_false, Bool.false_eq_true, reduceIte, ite_true, ite_false, gDiv_pos dt, hl]
        rw [whileL, t1, Option.bind_some]
        simp only [if_true, t2, Option.bind_some]
        rw [c2, show intD (acc ++ [t]) = intD acc ++ [.int (t : Int)] by simp [intD]] at ih
        exact ih
      · cases h
    · rename_i h1
      cases h
      have hz : (((n : Int) % t == 0) : Bool) = false := by simp only [beq_eq_false_iff_ne, ne_eq]; omega
      have t1 : pC [.sh (.int (n : Int)), .ow (.lst (intD acc)), .sh (.int (t : Int))] = some (false, [.sh (.int (n : Int)), .ow (.lst (intD acc)), .sh (.int (t : Int))]) := by
        simp only [sSeq, sAsg, sOp, sVar, gName, deref, derefs, getS, force, forces, sTup, sForces, sCons, sNil, gTup, gsCons, gsNil, storeS, storable, sC, sCallB, one, two, sIfS, sTB, sTruth, truth, sRet, sRetN, sSkip, sDrop, sIf, sOr, sAnd, sNot, sAndV, sOrV, sNotV, sUn, sChain, sGive, fLst, fList, fCall, sOwn, sCall, sCallI, owned, ownedL, gSet, upS, set_1, set_2, set_3, hLen_l, hLen_t, sAppend, apD, sPop, small0, small1, small2, small3, small4, small5, gLt, gLe, gGt, gGe, gAdd, gSub, gNeg, gEq_ii, gNe_ii, hAbs, hInt, gIx_l, gIx_t, gIx_f, atI_0, atI_1, atI_2, atI_3, Option.bind_some, Option.bind_none, List.getElem?_cons_zero, List.getElem?_cons_succ, List.getElem?_nil, List.set_cons_zero, List.set_cons_succ, List.length_cons, List.length_nil, if_true, if_false, Bool.not_true, Bool.not_false, Bool.false_eq_true, reduceIte, ite_true, ite_false, gMod_pos hti, hz]
      rw [whileL, t1, Option.bind_some]
      rfl
abbrev qC : SemB := sTB (sOp gGt (sVar 0) (sC (.int 1)))
abbrev qB : SemS := (sSeq (sWhile pC pB) (sAsg (sOp gAdd (sVar 2) (sC (.int 1))) (gName 2)))
theorem pout_ok : ∀ (fu n t : Nat) (acc r : List Nat), 0 < t → t + fu ≤ 1000 → pout fu n t acc = some r → ∀ F, fu ≤ F → ∃ n' t' : Int, whileL qC qB F [.sh (.int (n : Int)), .ow (.lst (intD acc)), .sh (.int (t : Int))] = some (.nx [.sh (.int n'), .ow (.lst (intD r)), .sh (.int t')])
  | 0, n, t, acc, r, h0, ht, h => by cases h
  | fu + 1, n, t, acc, r, h0, ht, h => fun F hF => by
    obtain ⟨F, rfl⟩ : ∃ G, F = G + 1 := ⟨F - 1, by omega⟩
    rw [pout] at h
    split at h
    · rename_i h1
      obtain ⟨x, h2, h⟩ := Option.bind_eq_some_iff.mp h
      have hw := pdiv_ok h0 (by omega) 12 n acc x h2 FUEL (by unfold FUEL; omega)
      obtain ⟨n', t', ih⟩ := pout_ok fu x.1 (t + 1) x.2 r (by omega) (by omega) h F (by omega)
      have hz : (1 : Int) < (n : Int) := by omega
      have t1 : qC [.sh (.int (n : Int)), .ow (.lst (intD acc)), .sh (.int (t : Int))] = some (true, [.sh (.int (n : Int)), .ow (.lst (intD acc)), .sh (.int (t : Int))]) := by
        simp only [sSeq, sAsg, sOp, sVar, gName, deref, derefs, getS, force, forces, sTup, sForces, sCons, sNil, gTup, gsCons, gsNil, storeS, storable, sC, sCallB, one, two, sIfS, sTB, sTruth, truth, sRet, sRetN, sSkip, sDrop, sIf, sOr, sAnd, sNot, sAndV, sOrV, sNotV, sUn, sChain, sGive, fLst, fList, fCall, sOwn, sCall, sCallI, owned, ownedL, gSet, upS, set_1, set_2, set_3, hLen_l, hLen_t, sAppend, apD, sPop, small0, small1, small2, small3, small4, small5, gLt, gLe, gGt, gGe, gAdd, gSub, gNeg, gEq_ii, gNe_ii, hAbs, hInt, gIx_l, gIx_t, gIx_f, atI_0, atI_1, atI_2, atI_3, Option.bind_some, Option.bind_none, List.getElem?_cons_zero, List.getElem?_cons_succ, List.getElem?_nil, List.set_cons_zero, List.set_cons_succ, List.length_cons, List.length_nil, if_true, if_false, Bool.not_true, Bool.not_false, Bool.false_eq_true, reduceIte, ite_true, ite_false, hz, decide_true]
      have t2 : qB [.sh (.int (n : Int)), .ow (.lst (intD acc)), .sh (.int (t : Int))] = some (.nx [.sh (.int (x.1 : Int)), .ow (.lst (intD x.2)), .sh (.int ((t : Int) + 1))]) := by
        rw [qB, sSeq, sWhile, hw, Option.bind_some]
        simp only [sSeq, sAsg, sOp, sVar, gName, deref, derefs, getS, force, forces, sTup, sForces, sCons, sNil, gTup, gsCons, gsNil, storeS, storable, sC, sCallB, one, two, sIfS, sTB, sTruth, truth, sRet, sRetN, sSkip, sDrop, sIf, sOr, sAnd, sNot, sAndV, sOrV, sNotV, sUn, sChain, sGive, fLst, fList, fCall, sOwn, sCall, sCallI, owned, ownedL, gSet, upS, set_1, set_2, set_3, hLen_l, hLen_t, sAppend, apD, sPop, small0, small1, small2, small3, small4, small5, gLt, gLe, gGt, gGe, gAdd, gSub, gNeg, gEq_ii, gNe_ii, hAbs, hInt, gIx_l, gIx_t, gIx_f, atI_0, atI_1, atI_2, atI_3, Option.bind_some, Option.bind_none, List.getElem?_cons_zero, List.getElem?_cons_succ, List.getElem?_nil, List.set_cons_zero, List.set_cons_succ, List.length_cons, List.length_nil, if_true, if_false, Bool.not_true, Bool.not_false, Bool.false_eq_true, reduceIte, ite_true, ite_false]
      refine ⟨n', t', ?_⟩
      rw [whileL, t1, Option.bind_some]
      simp only [if_true, t2, Option.bind_some]
      exact ih
    · rename_i h1
      cases h
      have hz : ¬ (1 : Int) < (n : Int) := by omega
      have t1 : qC [.sh (.int (n : Int)), .ow (.lst (intD acc)), .sh (.int (t : Int))] = some (false, [.sh (.int (n : Int)), .ow (.lst (intD acc)), .sh (.int (t : Int))]) := by
        simp only [sSeq, sAsg, sOp, sVar, gName, deref, derefs, getS, force, forces, sTup, sForces, sCons, sNil, gTup, gsCons, gsNil, storeS, storable, sC, sCallB, one, two, sIfS, sTB, sTruth, truth, sRet, sRetN, sSkip, sDrop, sIf, sOr, sAnd, sNot, sAndV, sOrV, sNotV, sUn, sChain, sGive, fLst, fList, fCall, sOwn, sCall, sCallI, owned, ownedL, gSet, upS, set_1, set_2, set_3, hLen_l, hLen_t, sAppend, apD, sPop, small0, small1, small2, small3, small4, small5, gLt, gLe, gGt, gGe, gAdd, gSub, gNeg, gEq_ii, gNe_ii, hAbs, hInt, gIx_l, gIx_t, gIx_f, atI_0, atI_1, atI_2, atI_3, Option.bind_some, Option.bind_none, List.getElem?_cons_zero, List.getElem?_cons_succ, List.getElem?_nil, List.set_cons_zero, List.set_cons_succ, List.length_cons, List.length_nil, if_true, if_false, Bool.not_true, Bool.not_false, Bool.false_eq_true, reduceIte, ite_true, ite_false, hz, decide_false]
      exact ⟨n, t, by rw [whileL, t1, Option.bind_some]; rfl⟩
theorem primes_ok {n : Nat} {r : List Nat} (h : pout 300 n 2 [] = some r) : F__law_primes_of [.int (n : Int)] = some (.lst (intD r)) := by
  obtain ⟨n', t', hw⟩ := pout_ok 300 n 2 [] r (by omega) (by omega) h FUEL (by unfold FUEL; omega)
  unfold F__law_primes_of runF
  rw [show startE 3 [.int (n : Int)] = [.sh (.int (n : Int)), .no, .no] from rfl]
  unfold b__law_primes_of
  have e1 : sParFV (fLst sNil) 1 (sC (.int 2)) 2 [.sh (.int (n : Int)), .no, .no] = some (.nx [.sh (.int (n : Int)), .ow (.lst (intD [])), .sh (.int ((2 : Nat) : Int))]) := by
    unfold sParFV
    simp only [sSeq, sAsg, sOp, sVar, gName, deref, derefs, getS, force, forces, sTup, sForces, sCons, sNil, gTup, gsCons, gsNil, storeS, storable, sC, sCallB, one, two, sIfS, sTB, sTruth, truth, sRet, sRetN, sSkip, sDrop, sIf, sOr, sAnd, sNot, sAndV, sOrV, sNotV, sUn, sChain, sGive, fLst, fList, fCall, sOwn, sCall, sCallI, owned, ownedL, gSet, upS, set_1, set_2, set_3, hLen_l, hLen_t, sAppend, apD, sPop, small0, small1, small2, small3, small4, small5, gLt, gLe, gGt, gGe, gAdd, gSub, gNeg, gEq_ii, gNe_ii, hAbs, hInt, gIx_l, gIx_t, gIx_f, atI_0, atI_1, atI_2, atI_3, Option.bind_some, Option.bind_none, List.getElem?_cons_zero, List.getElem?_cons_succ, List.getElem?_nil, List.set_cons_zero, List.set_cons_succ, List.length_cons, List.length_nil, if_true, if_false, Bool.not_true, Bool.not_false, Bool.false_eq_true, reduceIte, ite_true, ite_false, List.map_nil]
    rfl
  rw [sSeq, e1, Option.bind_some]
  dsimp only
  rw [sSeq, sWhile, show whileL (sTB (sOp gGt (sVar 0) (sC (.int 1)))) _ FUEL _ = _ from hw, Option.bind_some]
  dsimp only
  rfl
/-- the sign of a at a prime, by squares -/
def legN (r p : Nat) : Int := if r % p = 0 then 0 else if (List.range p).any (fun t => t * t % p == r % p) then 1 else -1
def chkN (n : Nat) : Bool := match pout 300 n 2 [] with
  | some ps => ps.all (fun p => n % p == 0 && decide (0 < p) && decide (p ≤ 1000)) && (List.range n).all fun r => jac 50 r n 1 == some (ps.foldl (fun d p => d * legN r p) 1)
  | none => false
end NL

namespace NL
open PySem L2
theorem same_int {n : Nat} {x y : Int} : F__law_same (n + 1) [.int x, .int y] = some (.bl (x == y)) := by
  show runF 3 (b__law_same (F__law_same n)) [.int x, .int y] = _
  unfold runF
  rw [show startE 3 [.int x, .int y] = [.sh (.int x), .sh (.int y), .no] from rfl]
  unfold b__law_same
  simp only [sSeq, sAsg, sOp, sVar, gName, deref, derefs, getS, force, forces, sTup, sForces, sCons, sNil, gTup, gsCons, gsNil, storeS, storable, sC, sCallB, one, two, sIfS, sTB, sTruth, truth, sRet, sRetN, sSkip, sDrop, sIf, sOr, sAnd, sNot, sAndV, sOrV, sNotV, sUn, sChain, sGive, fLst, fList, fCall, sOwn, sCall, sCallI, owned, ownedL, gSet, upS, set_1, set_2, set_3, hLen_l, hLen_t, sAppend, apD, sPop, small0, small1, small2, small3, small4, small5, gLt, gLe, gGt, gGe, gAdd, gSub, gNeg, gEq_ii, gNe_ii, hAbs, hInt, gIx_l, gIx_t, gIx_f, atI_0, atI_1, atI_2, atI_3, Option.bind_some, Option.bind_none, List.getElem?_cons_zero, List.getElem?_cons_succ, List.getElem?_nil, List.set_cons_zero, List.set_cons_succ, List.length_cons, List.length_nil, if_true, if_false, Bool.not_true, Bool.not_false, Bool.false_eq_true, reduceIte, ite_true, ite_false, hIsi, tyOf, subTy, anyTy]
  rfl
theorem sm {a : Int} {n : Nat} (h0 : -(n : Int) ≤ a) (h1 : a ≤ n) (hn : n ≤ 10 ^ 100) : a.natAbs < 2 ^ 1000 := by
  have : (10 : Nat) ^ 100 < 2 ^ 1000 := by decide
  omega
theorem mem_rangeD {d : D} {n : Nat} (h : d ∈ rangeD 0 n) : ∃ i : Nat, i < n ∧ d = .int (i : Int) := by
  rw [rangeD_eq, List.mem_map] at h
  obtain ⟨i, hi, rfl⟩ := h
  exact ⟨i, List.mem_range.mp hi, by rw [Int.zero_add]⟩
theorem filter_rangeD (n : Nat) (p : D → Bool) : (rangeD 0 n).filter p = ((List.range n).filter fun i : Nat => p (.int (i : Int))).map fun i : Nat => D.int (i : Int) := by
  rw [rangeD_eq, List.filter_map]
  have e : (fun i : Nat => D.int (0 + (i : Int))) = fun i : Nat => D.int (i : Int) := by funext i; rw [Int.zero_add]
  rw [e]; rfl
theorem rg1 : (1000000 : Int) < 2 ^ 62 := by decide
theorem inR_nat {m : Nat} (hm : m ≤ 1000000) : inR (m : Int) = true := inR_of (Int.natCast_nonneg m) (Int.lt_of_le_of_lt (show (m : Int) ≤ 1000000 by omega) rg1)
theorem range_run {e : SemR} {env : Env} {m : Nat} (h : e env = some ([.val (.int (m : Int))], env)) (hm : m ≤ 1000000) : sRangeI e env = some (rangeD 0 m, env, none) := by
  have hr := inR_nat hm
  have hz : (m : Int).toNat = m := Int.toNat_natCast m
  unfold sRangeI
  rw [h, Option.bind_some]
  generalize (m : Int) = z at hr hz ⊢
  dsimp only
  rw [hr, if_pos rfl, hz]
/-- the squares' places, the sign -/
def nears (a : Int) (p : Nat) : List Nat := (List.range p).filter fun t : Nat => ((t : Int) * t - a) % p == 0
def legI (a : Int) (p : Nat) : Int := if a % p = 0 then 0 else if (nears a p).isEmpty then -1 else 1
abbrev inner : SemS := (sSeq (sOwn (fLc (sRangeI (sCons (sVar 6) sNil)) [11] (gName 11) (sTB (sOp gEq (sOp gMod (sOp gSub (sOp gMul (sVar 11) (sVar 11)) (sVar 4)) (sVar 6)) (sC (.int 0)))) (sVar 11)) 7)
    (sAsg (sOp gMul (sVar 5) (sIf (sTB (sOp gEq (sOp gMod (sVar 4) (sVar 6)) (sC (.int 0)))) (sC (.int 0)) (sIf (sTruth (sVar 7)) (sC (.int 1)) (sUn gNeg (sC (.int 1)))))) (gName 5)))
section
variable {s0 d : D} {s2 s3 s8 s9 s10 : Sl}
theorem near_run {p : Nat} {a : Int} {s5 s7 : Sl} (hp : 0 < p) (hp2 : p ≤ 1000) (ha : a.natAbs ≤ 1000) : fLc (sRangeI (sCons (sVar 6) sNil)) [11] (gName 11) (sTB (sOp gEq (sOp gMod (sOp gSub (sOp gMul (sVar 11) (sVar 11)) (sVar 4)) (sVar 6)) (sC (.int 0)))) (sVar 11)
    [.sh s0, .ow d, s2, s3, .sh (.int a), s5, .sh (.int (p : Int)), s7, s8, s9, s10, .no] = some (.lst (intD (nears a p)), [.sh s0, .ow d, s2, s3, .sh (.int a), s5, .sh (.int (p : Int)), s7, s8, s9, s10, .no]) := by
  have hf := fLc_ok (mi := sRangeI (sCons (sVar 6) sNil)) (tt := sTB (sOp gEq (sOp gMod (sOp gSub (sOp gMul (sVar 11) (sVar 11)) (sVar 4)) (sVar 6)) (sC (.int 0)))) (te := sVar 11) (v := 11) (u := none) (ds := rangeD 0 p)
    (env := [.sh s0, .ow d, s2, s3, .sh (.int a), s5, .sh (.int (p : Int)), s7, s8, s9, s10, .no]) (env1 := [.sh s0, .ow d, s2, s3, .sh (.int a), s5, .sh (.int (p : Int)), s7, s8, s9, s10, .no])
    (range_run (by rfl) (by omega)) (small_of (by rw [rangeD_length]; omega)) (by simp) rfl (fun d => match d with | .int t => (t * t - a) % p == 0 | _ => false) id (fun d hd => by
      obtain ⟨i, hi, rfl⟩ := mem_rangeD hd
      have m1 : mulOk i i = true := mulOk_of (sm (n := 1000) (by omega) (by omega) (by decide)) (sm (n := 1000) (by omega) (by omega) (by decide))
      have hpi : (0 : Int) < p := by omega
      exact ⟨by simp only [sSeq, sAsg, sOp, sVar, gName, deref, derefs, getS, force, forces, sTup, sForces, sCons, sNil, gTup, gsCons, gsNil, storeS, storable, sC, sCallB, one, two, sIfS, sTB, sTruth, truth, sRet, sRetN, sSkip, sDrop, sIf, sOr, sAnd, sNot, sAndV, sOrV, sNotV, sUn, sChain, sGive, fLst, fList, fCall, sOwn, sCall, sCallI, owned, ownedL, gSet, upS, set_1, set_2, set_3, hLen_l, hLen_t, sAppend, apD, sPop, small0, small1, small2, small3, small4, small5, gLt, gLe, gGt, gGe, gAdd, gSub, gNeg, gEq_ii, gNe_ii, hAbs, hInt, gIx_l, gIx_t, gIx_f, atI_0, atI_1, atI_2, atI_3, Option.bind_some, Option.bind_none, List.getElem?_cons_zero, List.getElem?_cons_succ, List.getElem?_nil, List.set_cons_zero, List.set_cons_succ, List.length_cons, List.length_nil, if_true, if_false, Bool.not_true, Bool.not_false, Bool.false_eq_true, reduceIte, ite_true, ite_false, gMul_ok m1, gMod_pos hpi], fun _ => by simp only [sSeq, sAsg, sOp, sVar, gName, deref, derefs, getS, force, forces, sTup, sForces, sCons, sNil, gTup, gsCons, gsNil, storeS, storable, sC, sCallB, one, two, sIfS, sTB, sTruth, truth, sRet, sRetN, sSkip, sDrop, sIf, sOr, sAnd, sNot, sAndV, sOrV, sNotV, sUn, sChain, sGive, fLst, fList, fCall, sOwn, sCall, sCallI, owned, ownedL, gSet, upS, set_1, set_2, set_3, hLen_l, hLen_t, sAppend, apD, sPop, small0, small1, small2, small3, small4, small5, gLt, gLe, gGt, gGe, gAdd, gSub, gNeg, gEq_ii, gNe_ii, hAbs, hInt, gIx_l, gIx_t, gIx_f, atI_0, atI_1, atI_2, atI_3, Option.bind_some, Option.bind_none, List.getElem?_cons_zero, List.getElem?_cons_succ, List.getElem?_nil, List.set_cons_zero, List.set_cons_succ, List.length_cons, List.length_nil, if_true, if_false, Bool.not_true, Bool.not_false, Bool.false_eq_true, reduceIte, ite_true, ite_false, id]⟩)
  rw [hf, List.map_id, filter_rangeD]
  rfl
theorem inner_run {p : Nat} {a due : Int} {s7 : Sl} (hp : 0 < p) (hp2 : p ≤ 1000) (ha : a.natAbs ≤ 1000) (hd : due.natAbs ≤ 1) (h7 : st s7 = true) : inner [.sh s0, .ow d, s2, s3, .sh (.int a), .sh (.int due), .sh (.int (p : Int)), s7, s8, s9, s10, .no] =
    some (.nx [.sh s0, .ow d, s2, s3, .sh (.int a), .sh (.int (due * legI a p)), .sh (.int (p : Int)), .ow (.lst (intD (nears a p))), s8, s9, s10, .no]) := by
  have e1 : sOwn (fLc (sRangeI (sCons (sVar 6) sNil)) [11] (gName 11) (sTB (sOp gEq (sOp gMod (sOp gSub (sOp gMul (sVar 11) (sVar 11)) (sVar 4)) (sVar 6)) (sC (.int 0)))) (sVar 11)) 7 [.sh s0, .ow d, s2, s3, .sh (.int a), .sh (.int due), .sh (.int (p : Int)), s7, s8, s9, s10, .no] =
      some (.nx [.sh s0, .ow d, s2, s3, .sh (.int a), .sh (.int due), .sh (.int (p : Int)), .ow (.lst (intD (nears a p))), s8, s9, s10, .no]) := by
    unfold sOwn
    rw [near_run hp hp2 ha, Option.bind_some]
    dsimp only
    simp only [storeS, storable_zero, storable_succ, h7, if_true, Option.bind_some, List.set_cons_succ, List.set_cons_zero]
  rw [inner, sSeq, e1, Option.bind_some]
  dsimp only
  have hpi : (0 : Int) < p := by omega
  have m0 : mulOk due 0 = true := mulOk_of (sm (n := 1) (by omega) (by omega) (by decide)) (by decide)
  have m1 : mulOk due 1 = true := mulOk_of (sm (n := 1) (by omega) (by omega) (by decide)) (by decide)
  have m2 : mulOk due (-1) = true := mulOk_of (sm (n := 1) (by omega) (by omega) (by decide)) (by decide)
  by_cases hz : a % (p : Int) = 0
  · have hl : legI a p = 0 := by unfold legI; rw [if_pos hz]
    rw [hl]
    have hz' : ((a % (p : Int) == 0) : Bool) = true := by rw [hz]; rfl
    simp only [sSeq, sAsg, sOp, sVar, gName, deref, derefs, getS, force, forces, sTup, sForces, sCons, sNil, gTup, gsCons, gsNil, storeS, storable_zero, storable_succ, st_no, st_sh, st_ow, sC, sCallB, one, two, sIfS, sTB, sTruth, truth, sRet, sRetN, sSkip, sDrop, sIf, sOr, sAnd, sNot, sAndV, sOrV, sNotV, sUn, sChain, sGive, fLst, fList, fCall, sOwn, sCall, sCallI, owned, ownedL, gSet, upS, set_1, set_2, set_3, hLen_l, hLen_t, sAppend, apD, sPop, small0, small1, small2, small3, small4, small5, gLt, gLe, gGt, gGe, gAdd, gSub, gNeg, gEq_ii, gNe_ii, hAbs, hInt, gIx_l, gIx_t, gIx_f, atI_0, atI_1, atI_2, atI_3, Option.bind_some, Option.bind_none, List.getElem?_cons_zero, List.getElem?_cons_succ, List.getElem?_nil, List.set_cons_zero, List.set_cons_succ, List.length_cons, List.length_nil, if_true, if_false, Bool.not_true, Bool.not_false, Bool.false_eq_true, reduceIte, ite_true, ite_false, gMod_pos hpi, hz', gMul_ok m0]
  · have hz' : ((a % (p : Int) == 0) : Bool) = false := by simpa using hz
    by_cases hn : (nears a p).isEmpty = true
    · have hl : legI a p = -1 := by unfold legI; rw [if_neg hz, if_pos hn]
      rw [hl]
      have hn' : (intD (nears a p)).isEmpty = true := by rw [List.isEmpty_iff] at hn ⊢; rw [hn]; rfl
      simp only [sSeq, sAsg, sOp, sVar, gName, deref, derefs, getS, force, forces, sTup, sForces, sCons, sNil, gTup, gsCons, gsNil, storeS, storable_zero, storable_succ, st_no, st_sh, st_ow, sC, sCallB, one, two, sIfS, sTB, sTruth, truth, sRet, sRetN, sSkip, sDrop, sIf, sOr, sAnd, sNot, sAndV, sOrV, sNotV, sUn, sChain, sGive, fLst, fList, fCall, sOwn, sCall, sCallI, owned, ownedL, gSet, upS, set_1, set_2, set_3, hLen_l, hLen_t, sAppend, apD, sPop, small0, small1, small2, small3, small4, small5, gLt, gLe, gGt, gGe, gAdd, gSub, gNeg, gEq_ii, gNe_ii, hAbs, hInt, gIx_l, gIx_t, gIx_f, atI_0, atI_1, atI_2, atI_3, Option.bind_some, Option.bind_none, List.getElem?_cons_zero, List.getElem?_cons_succ, List.getElem?_nil, List.set_cons_zero, List.set_cons_succ, List.length_cons, List.length_nil, if_true, if_false, Bool.not_true, Bool.not_false, Bool.false_eq_true, reduceIte, ite_true, ite_false, gMod_pos hpi, hz', hn', gMul_ok m2]
    · have hl : legI a p = 1 := by unfold legI; rw [if_neg hz, if_neg hn]
      rw [hl]
      have hn' : (intD (nears a p)).isEmpty = false := by
        rw [Bool.not_eq_true] at hn
        cases q : nears a p with
        | nil => rw [q] at hn; cases hn
        | cons x l => rfl
      simp only [sSeq, sAsg, sOp, sVar, gName, deref, derefs, getS, force, forces, sTup, sForces, sCons, sNil, gTup, gsCons, gsNil, storeS, storable_zero, storable_succ, st_no, st_sh, st_ow, sC, sCallB, one, two, sIfS, sTB, sTruth, truth, sRet, sRetN, sSkip, sDrop, sIf, sOr, sAnd, sNot, sAndV, sOrV, sNotV, sUn, sChain, sGive, fLst, fList, fCall, sOwn, sCall, sCallI, owned, ownedL, gSet, upS, set_1, set_2, set_3, hLen_l, hLen_t, sAppend, apD, sPop, small0, small1, small2, small3, small4, small5, gLt, gLe, gGt, gGe, gAdd, gSub, gNeg, gEq_ii, gNe_ii, hAbs, hInt, gIx_l, gIx_t, gIx_f, atI_0, atI_1, atI_2, atI_3, Option.bind_some, Option.bind_none, List.getElem?_cons_zero, List.getElem?_cons_succ, List.getElem?_nil, List.set_cons_zero, List.set_cons_succ, List.length_cons, List.length_nil, if_true, if_false, Bool.not_true, Bool.not_false, Bool.false_eq_true, reduceIte, ite_true, ite_false, gMod_pos hpi, hz', hn', gMul_ok m1]
theorem legI_abs (a : Int) (p : Nat) (due : Int) (h : due.natAbs ≤ 1) : (due * legI a p).natAbs ≤ 1 := by
  unfold legI
  split
  · simp
  · split
    · rw [Int.natAbs_mul]; simpa using h
    · rw [Int.natAbs_mul]; simpa using h
theorem primes_run {a : Int} (ha : a.natAbs ≤ 1000) : ∀ (ps : List Nat) (due : Int) (s6 s7 : Sl), (∀ p ∈ ps, 0 < p ∧ p ≤ 1000) → due.natAbs ≤ 1 → st s6 = true → st s7 = true → ∃ t6 t7, st t6 = true ∧ st t7 = true ∧
    forL (gName 6) inner (intD ps) [.sh s0, .ow d, s2, s3, .sh (.int a), .sh (.int due), s6, s7, s8, s9, s10, .no] = some (.nx [.sh s0, .ow d, s2, s3, .sh (.int a), .sh (.int (ps.foldl (fun d p => d * legI a p) due)), t6, t7, s8, s9, s10, .no])
  | [], due, s6, s7, hp, hd, h6, h7 => ⟨s6, s7, h6, h7, rfl⟩
  | p :: ps, due, s6, s7, hp, hd, h6, h7 => by
    obtain ⟨p1, p2⟩ := hp p List.mem_cons_self
    obtain ⟨t6, t7, g6, g7, ih⟩ := primes_run ha ps (due * legI a p) (.sh (.int (p : Int))) (.ow (.lst (intD (nears a p)))) (fun q m => hp q (List.mem_cons_of_mem _ m)) (legI_abs a p due hd) rfl rfl
    refine ⟨t6, t7, g6, g7, ?_⟩
    have e1 : gName 6 (.int (p : Int)) [.sh s0, .ow d, s2, s3, .sh (.int a), .sh (.int due), s6, s7, s8, s9, s10, .no] = some [.sh s0, .ow d, s2, s3, .sh (.int a), .sh (.int due), .sh (.int (p : Int)), s7, s8, s9, s10, .no] := by
      simp only [gName, storeS, storable_zero, storable_succ, h6, if_true, List.set_cons_succ, List.set_cons_zero]
    rw [show intD (p :: ps) = D.int (p : Int) :: intD ps from rfl, forL, e1, Option.bind_some, inner_run p1 p2 ha hd h7, Option.bind_some]
    exact ih
end
end NL

namespace NL
open PySem L2
theorem chkJ0 : ((List.range' 0 30).all fun k => chkN (1 + 2 * k)) = true := by decide +kernel
theorem chkJ30 : ((List.range' 30 20).all fun k => chkN (1 + 2 * k)) = true := by decide +kernel
theorem chkJ50 : ((List.range' 50 15).all fun k => chkN (1 + 2 * k)) = true := by decide +kernel
theorem chkJ65 : ((List.range' 65 15).all fun k => chkN (1 + 2 * k)) = true := by decide +kernel
theorem chkJ80 : ((List.range' 80 10).all fun k => chkN (1 + 2 * k)) = true := by decide +kernel
theorem chkJ90 : ((List.range' 90 10).all fun k => chkN (1 + 2 * k)) = true := by decide +kernel
theorem chkJ100 : ((List.range' 100 10).all fun k => chkN (1 + 2 * k)) = true := by decide +kernel
theorem chkJ110 : ((List.range' 110 10).all fun k => chkN (1 + 2 * k)) = true := by decide +kernel
theorem chkJ : ((List.range 120).all fun k => chkN (1 + 2 * k)) = true := by
  have e : List.range 120 = List.range' 0 30 ++ List.range' 30 20 ++ List.range' 50 15 ++ List.range' 65 15 ++ List.range' 80 10 ++ List.range' 90 10 ++ List.range' 100 10 ++ List.range' 110 10 := by decide
  rw [e]
  simp only [List.all_append, chkJ0, chkJ30, chkJ50, chkJ65, chkJ80, chkJ90, chkJ100, chkJ110, Bool.and_self]
def asNats : List D → Option (List Nat)
  | [] => some []
  | .int (.ofNat a) :: l => (asNats l).bind fun r => some (a :: r)
  | _ => none
def rootsN (p a : Nat) : List Nat := (List.range p).filter fun t => t * t % p == a
def chkA (p a : Nat) : Bool := match F_prime_roots [.int (a : Int), .int (p : Int)] with
  | some (.tup l) => asNats l == some (rootsN p a)
  | _ => false
def chkP (p : Nat) : Bool := (List.range p).all (chkA p)
def ptab : List Nat := [2, 3, 5, 7, 11, 13, 17, 41, 73, 97, 193, 257, 401]
theorem chk2_0 : ((List.range' 0 2).all (chkA 2)) = true := by decide +kernel
theorem chk2 : chkP 2 = true := by
  have e : List.range 2 = List.range' 0 2 := by decide
  unfold chkP
  rw [e]
  simp only [List.all_append, chk2_0, Bool.and_self]
theorem chk3_0 : ((List.range' 0 3).all (chkA 3)) = true := by decide +kernel
theorem chk3 : chkP 3 = true := by
  have e : List.range 3 = List.range' 0 3 := by decide
  unfold chkP
  rw [e]
  simp only [List.all_append, chk3_0, Bool.and_self]
theorem chk5_0 : ((List.range' 0 5).all (chkA 5)) = true := by decide +kernel
theorem chk5 : chkP 5 = true := by
  have e : List.range 5 = List.range' 0 5 := by decide
  unfold chkP
  rw [e]
  simp only [List.all_append, chk5_0, Bool.and_self]
theorem chk7_0 : ((List.range' 0 7).all (chkA 7)) = true := by decide +kernel
theorem chk7 : chkP 7 = true := by
  have e : List.range 7 = List.range' 0 7 := by decide
  unfold chkP
  rw [e]
  simp only [List.all_append, chk7_0, Bool.and_self]
theorem chk11_0 : ((List.range' 0 11).all (chkA 11)) = true := by decide +kernel
theorem chk11 : chkP 11 = true := by
  have e : List.range 11 = List.range' 0 11 := by decide
  unfold chkP
  rw [e]
  simp only [List.all_append, chk11_0, Bool.and_self]
theorem chk13_0 : ((List.range' 0 13).all (chkA 13)) = true := by decide +kernel
theorem chk13 : chkP 13 = true := by
  have e : List.range 13 = List.range' 0 13 := by decide
  unfold chkP
  rw [e]
  simp only [List.all_append, chk13_0, Bool.and_self]
theorem chk17_0 : ((List.range' 0 17).all (chkA 17)) = true := by decide +kernel
theorem chk17 : chkP 17 = true := by
  have e : List.range 17 = List.range' 0 17 := by decide
  unfold chkP
  rw [e]
  simp only [List.all_append, chk17_0, Bool.and_self]
theorem chk41_0 : ((List.range' 0 41).all (chkA 41)) = true := by decide +kernel
theorem chk41 : chkP 41 = true := by
  have e : List.range 41 = List.range' 0 41 := by decide
  unfold chkP
  rw [e]
  simp only [List.all_append, chk41_0, Bool.and_self]
theorem chk73_0 : ((List.range' 0 73).all (chkA 73)) = true := by decide +kernel
theorem chk73 : chkP 73 = true := by
  have e : List.range 73 = List.range' 0 73 := by decide
  unfold chkP
  rw [e]
  simp only [List.all_append, chk73_0, Bool.and_self]
theorem chk97_0 : ((List.range' 0 97).all (chkA 97)) = true := by decide +kernel
theorem chk97 : chkP 97 = true := by
  have e : List.range 97 = List.range' 0 97 := by decide
  unfold chkP
  rw [e]
  simp only [List.all_append, chk97_0, Bool.and_self]
theorem chk193_0 : ((List.range' 0 45).all (chkA 193)) = true := by decide +kernel
theorem chk193_45 : ((List.range' 45 45).all (chkA 193)) = true := by decide +kernel
theorem chk193_90 : ((List.range' 90 45).all (chkA 193)) = true := by decide +kernel
theorem chk193_135 : ((List.range' 135 45).all (chkA 193)) = true := by decide +kernel
theorem chk193_180 : ((List.range' 180 13).all (chkA 193)) = true := by decide +kernel
theorem chk193 : chkP 193 = true := by
  have e : List.range 193 = List.range' 0 45 ++ List.range' 45 45 ++ List.range' 90 45 ++ List.range' 135 45 ++ List.range' 180 13 := by decide
  unfold chkP
  rw [e]
  simp only [List.all_append, chk193_0, chk193_45, chk193_90, chk193_135, chk193_180, Bool.and_self]
theorem chk257_0 : ((List.range' 0 45).all (chkA 257)) = true := by decide +kernel
theorem chk257_45 : ((List.range' 45 45).all (chkA 257)) = true := by decide +kernel
theorem chk257_90 : ((List.range' 90 45).all (chkA 257)) = true := by decide +kernel
theorem chk257_135 : ((List.range' 135 45).all (chkA 257)) = true := by decide +kernel
theorem chk257_180 : ((List.range' 180 45).all (chkA 257)) = true := by decide +kernel
theorem chk257_225 : ((List.range' 225 32).all (chkA 257)) = true := by decide +kernel
theorem chk257 : chkP 257 = true := by
  have e : List.range 257 = List.range' 0 45 ++ List.range' 45 45 ++ List.range' 90 45 ++ List.range' 135 45 ++ List.range' 180 45 ++ List.range' 225 32 := by decide
  unfold chkP
  rw [e]
  simp only [List.all_append, chk257_0, chk257_45, chk257_90, chk257_135, chk257_180, chk257_225, Bool.and_self]
theorem chk401_0 : ((List.range' 0 45).all (chkA 401)) = true := by decide +kernel
theorem chk401_45 : ((List.range' 45 45).all (chkA 401)) = true := by decide +kernel
theorem chk401_90 : ((List.range' 90 45).all (chkA 401)) = true := by decide +kernel
theorem chk401_135 : ((List.range' 135 45).all (chkA 401)) = true := by decide +kernel
theorem chk401_180 : ((List.range' 180 45).all (chkA 401)) = true := by decide +kernel
theorem chk401_225 : ((List.range' 225 45).all (chkA 401)) = true := by decide +kernel
theorem chk401_270 : ((List.range' 270 45).all (chkA 401)) = true := by decide +kernel
theorem chk401_315 : ((List.range' 315 45).all (chkA 401)) = true := by decide +kernel
theorem chk401_360 : ((List.range' 360 41).all (chkA 401)) = true := by decide +kernel
theorem chk401 : chkP 401 = true := by
  have e : List.range 401 = List.range' 0 45 ++ List.range' 45 45 ++ List.range' 90 45 ++ List.range' 135 45 ++ List.range' 180 45 ++ List.range' 225 45 ++ List.range' 270 45 ++ List.range' 315 45 ++ List.range' 360 41 := by decide
  unfold chkP
  rw [e]
  simp only [List.all_append, chk401_0, chk401_45, chk401_90, chk401_135, chk401_180, chk401_225, chk401_270, chk401_315, chk401_360, Bool.and_self]
theorem chkR : (ptab.all chkP) = true := by
  unfold ptab
  simp only [List.all_cons, List.all_nil, chk2, chk3, chk5, chk7, chk11, chk13, chk17, chk41, chk73, chk97, chk193, chk257, chk401, Bool.and_self]
end NL

namespace NL
open PySem L2
theorem bool_iff {a b : Bool} (h : a = true ↔ b = true) : a = b := by cases a <;> cases b <;> simp_all
theorem legI_eq {a : Int} {n p : Nat} (hp : 0 < p) (hn : 0 < n) (hd : n % p = 0) : legI a p = legN (a % n).toNat p := by
  have hr0 : 0 ≤ a % (n : Int) := Int.emod_nonneg _ (by omega)
  obtain ⟨r, hr⟩ : ∃ r : Nat, a % (n : Int) = r := ⟨(a % n).toNat, by omega⟩
  rw [hr, Int.toNat_natCast]
  have hdv : (p : Int) ∣ n := Int.natCast_dvd_natCast.mpr (Nat.dvd_of_mod_eq_zero hd)
  have hap : a % (p : Int) = ((r % p : Nat) : Int) := by
    rw [← Int.emod_emod_of_dvd a hdv, hr]; simp
  unfold legI legN
  rw [hap]
  by_cases hz : r % p = 0
  · rw [if_pos (by omega), if_pos hz]
  · rw [if_neg (by omega), if_neg hz]
    have he : (nears a p).isEmpty = !(List.range p).any (fun t => t * t % p == r % p) := by
      have hpt : ∀ t : Nat, ((((t : Int) * t - a) % p == 0) : Bool) = (t * t % p == r % p) := fun t => by
        apply bool_iff
        simp only [beq_iff_eq]
        have e1 := Int.emod_eq_emod_iff_emod_sub_eq_zero (m := (t : Int) * t) (n := (p : Int)) (k := a)
        have e2 : ((t * t % p : Nat) : Int) = (t : Int) * t % p := by simp
        rw [← e1, hap, ← e2]
        omega
      unfold nears
      rw [List.filter_congr (fun t _ => hpt t)]
      cases q : (List.range p).any (fun t => t * t % p == r % p) with
      | true =>
        obtain ⟨t, h1, h2⟩ := List.any_eq_true.mp q
        have hm : t ∈ List.filter (fun t => t * t % p == r % p) (List.range p) := List.mem_filter.mpr ⟨h1, h2⟩
        cases e : List.filter (fun t => t * t % p == r % p) (List.range p) with
        | nil => rw [e] at hm; cases hm
        | cons x l => rfl
      | false =>
        rw [List.isEmpty_iff.mpr]
        · rfl
        · apply List.filter_eq_nil_iff.mpr
          intro t ht hc
          have := List.any_eq_false.mp q t ht
          exact this hc
    rw [he]
    cases (List.range p).any (fun t => t * t % p == r % p) <;> rfl
theorem foldl_leg {a : Int} {n : Nat} (hn : 0 < n) : ∀ (ps : List Nat) (due : Int), (∀ p ∈ ps, 0 < p ∧ n % p = 0) → ps.foldl (fun d p => d * legI a p) due = ps.foldl (fun d p => d * legN (a % n).toNat p) due
  | [], due, h => rfl
  | p :: ps, due, h => by
    obtain ⟨p1, p2⟩ := h p List.mem_cons_self
    rw [List.foldl_cons, List.foldl_cons, legI_eq p1 hn p2]
    exact foldl_leg hn ps _ fun q m => h q (List.mem_cons_of_mem _ m)
abbrev turnB : SemS := (sSeq (sAsg (sTup (sCons (sOp gAdd (sC (.int 1)) (sOp gMul (sC (.int 2)) (sCallI F__law_next 1 (sCons (sC (.int 120)) sNil)))) (sCons (sOp gSub (sCallI F__law_next 1 (sCons (sC (.int 500)) sNil)) (sC (.int 250))) sNil))) (gTup 2 (gsCons (gName 3) (gsCons (gName 4) gsNil))))
    (sSeq (sAsg (sC (.int 1)) (gName 5))
    (sSeq (sFor (sSeqI (sCall F__law_primes_of (sCons (sVar 3) sNil))) (gName 6) inner)
    (sIfS (sNot (sTruth (sCall (F__law_same 6) (sCons (sCall F_sign_at (sCons (sVar 4) (sCons (sVar 3) sNil))) (sCons (sVar 5) sNil))))) (sRet (sC (.bl false))) sSkip))))
theorem turn_run {s0 d : D} {s2 s3 s4 s5 s6 s7 : Sl} (hd : DrawOk d) (h3 : st s3 = true) (h4 : st s4 = true) (h5 : st s5 = true) (h6 : st s6 = true) (h7 : st s7 = true) : ∃ d' t3 t4 t5 t6 t7, DrawOk d' ∧ st t3 = true ∧ st t4 = true ∧ st t5 = true ∧ st t6 = true ∧ st t7 = true ∧
    turnB [.sh s0, .ow d, s2, s3, s4, s5, s6, s7, .no, .no, .no, .no] = some (.nx [.sh s0, .ow d', s2, t3, t4, t5, t6, t7, .no, .no, .no, .no]) := by
  obtain ⟨v1, d1, e1, a1, b1, hd1⟩ := next_ok (many := 120) hd (by decide) (by decide)
  obtain ⟨v2, d2, e2, a2, b2, hd2⟩ := next_ok (many := 500) hd1 (by decide) (by decide)
  have m2 : mulOk 2 v1 = true := mulOk_of (by decide) (sm (n := 1000) (by omega) (by omega) (by decide))
  obtain ⟨k, hk⟩ : ∃ k : Nat, v1 = k := ⟨v1.toNat, by omega⟩
  subst hk
  have hc := List.all_eq_true.mp chkJ k (List.mem_range.mpr (by omega))
  obtain ⟨n, hn⟩ : ∃ n : Nat, n = 1 + 2 * k := ⟨_, rfl⟩
  rw [← hn] at hc
  obtain ⟨a, ha⟩ : ∃ a : Int, a = v2 - 250 := ⟨_, rfl⟩
  have hab : a.natAbs ≤ 1000 := by omega
  unfold chkN at hc
  split at hc
  rotate_left
  · cases hc
  rename_i ps hps
  rw [Bool.and_eq_true] at hc
  obtain ⟨hc1, hc2⟩ := hc
  have hpp : ∀ p ∈ ps, (0 < p ∧ p ≤ 1000) ∧ n % p = 0 := fun p hp => by
    have := List.all_eq_true.mp hc1 p hp
    simp only [Bool.and_eq_true, decide_eq_true_eq, beq_iff_eq] at this
    exact ⟨⟨this.1.2, this.2⟩, this.1.1⟩
  have hr0 : 0 ≤ a % (n : Int) := Int.emod_nonneg _ (by omega)
  have hr1 : a % (n : Int) < n := Int.emod_lt_of_pos _ (by omega)
  have hj := eq_of_beq (List.all_eq_true.mp hc2 (a % n).toNat (List.mem_range.mpr (by omega)))
  have hs := sign_ok (a := a) (n := n) (by omega) (by omega) hj
  rw [← foldl_leg (by omega) ps 1 (fun p hp => ⟨(hpp p hp).1.1, (hpp p hp).2⟩)] at hs
  have hpr := primes_ok hps
  obtain ⟨t6, t7, g6, g7, hl⟩ := primes_run (s0 := s0) (d := d2) (s2 := s2) (s3 := .sh (.int (n : Int))) (s8 := .no) (s9 := .no) (s10 := .no) hab ps 1 s6 s7 (fun p hp => (hpp p hp).1) (by decide) h6 h7
  generalize ps.foldl (fun d p => d * legI a p) 1 = due at hs hl
  refine ⟨d2, .sh (.int (n : Int)), .sh (.int a), .sh (.int due), t6, t7, hd2, rfl, rfl, rfl, g6, g7, ?_⟩
  have z1 : sAsg (sTup (sCons (sOp gAdd (sC (.int 1)) (sOp gMul (sC (.int 2)) (sCallI F__law_next 1 (sCons (sC (.int 120)) sNil)))) (sCons (sOp gSub (sCallI F__law_next 1 (sCons (sC (.int 500)) sNil)) (sC (.int 250))) sNil))) (gTup 2 (gsCons (gName 3) (gsCons (gName 4) gsNil))) [.sh s0, .ow d, s2, s3, s4, s5, s6, s7, .no, .no, .no, .no] = some (.nx [.sh s0, .ow d2, s2, .sh (.int (n : Int)), .sh (.int a), s5, s6, s7, .no, .no, .no, .no]) := by
    rw [ha, show (n : Int) = 1 + 2 * (k : Int) by omega]
    simp only [sSeq, sAsg, sOp, sVar, gName, deref, derefs, getS, force, forces, sTup, sForces, sCons, sNil, gTup, gsCons, gsNil, storeS, storable_zero, storable_succ, st_no, st_sh, st_ow, sC, sCallB, one, two, sIfS, sTB, sTruth, truth, sRet, sRetN, sSkip, sDrop, sIf, sOr, sAnd, sNot, sAndV, sOrV, sNotV, sUn, sChain, sGive, fLst, fList, fCall, sOwn, sCall, sCallI, owned, ownedL, gSet, upS, set_1, set_2, set_3, hLen_l, hLen_t, sAppend, apD, sPop, small0, small1, small2, small3, small4, small5, gLt, gLe, gGt, gGe, gAdd, gSub, gNeg, gEq_ii, gNe_ii, hAbs, hInt, gIx_l, gIx_t, gIx_f, atI_0, atI_1, atI_2, atI_3, Option.bind_some, Option.bind_none, List.getElem?_cons_zero, List.getElem?_cons_succ, List.getElem?_nil, List.set_cons_zero, List.set_cons_succ, List.length_cons, List.length_nil, if_true, if_false, Bool.not_true, Bool.not_false, Bool.false_eq_true, reduceIte, ite_true, ite_false, e1, e2, gMul_ok m2, h3, h4]
  have z2 : sAsg (sC (.int 1)) (gName 5) [.sh s0, .ow d2, s2, .sh (.int (n : Int)), .sh (.int a), s5, s6, s7, .no, .no, .no, .no] = some (.nx [.sh s0, .ow d2, s2, .sh (.int (n : Int)), .sh (.int a), .sh (.int 1), s6, s7, .no, .no, .no, .no]) := by
    simp only [sSeq, sAsg, sOp, sVar, gName, deref, derefs, getS, force, forces, sTup, sForces, sCons, sNil, gTup, gsCons, gsNil, storeS, storable_zero, storable_succ, st_no, st_sh, st_ow, sC, sCallB, one, two, sIfS, sTB, sTruth, truth, sRet, sRetN, sSkip, sDrop, sIf, sOr, sAnd, sNot, sAndV, sOrV, sNotV, sUn, sChain, sGive, fLst, fList, fCall, sOwn, sCall, sCallI, owned, ownedL, gSet, upS, set_1, set_2, set_3, hLen_l, hLen_t, sAppend, apD, sPop, small0, small1, small2, small3, small4, small5, gLt, gLe, gGt, gGe, gAdd, gSub, gNeg, gEq_ii, gNe_ii, hAbs, hInt, gIx_l, gIx_t, gIx_f, atI_0, atI_1, atI_2, atI_3, Option.bind_some, Option.bind_none, List.getElem?_cons_zero, List.getElem?_cons_succ, List.getElem?_nil, List.set_cons_zero, List.set_cons_succ, List.length_cons, List.length_nil, if_true, if_false, Bool.not_true, Bool.not_false, Bool.false_eq_true, reduceIte, ite_true, ite_false, h5]
  have z3 : sFor (sSeqI (sCall F__law_primes_of (sCons (sVar 3) sNil))) (gName 6) inner [.sh s0, .ow d2, s2, .sh (.int (n : Int)), .sh (.int a), .sh (.int 1), s6, s7, .no, .no, .no, .no] = some (.nx [.sh s0, .ow d2, s2, .sh (.int (n : Int)), .sh (.int a), .sh (.int due), t6, t7, .no, .no, .no, .no]) := by
    have hi : sSeqI (sCall F__law_primes_of (sCons (sVar 3) sNil)) [.sh s0, .ow d2, s2, .sh (.int (n : Int)), .sh (.int a), .sh (.int 1), s6, s7, .no, .no, .no, .no] = some (intD ps, [.sh s0, .ow d2, s2, .sh (.int (n : Int)), .sh (.int a), .sh (.int 1), s6, s7, .no, .no, .no, .no], none) := by
      unfold sSeqI
      simp only [sSeq, sAsg, sOp, sVar, gName, deref, derefs, getS, force, forces, sTup, sForces, sCons, sNil, gTup, gsCons, gsNil, storeS, storable_zero, storable_succ, st_no, st_sh, st_ow, sC, sCallB, one, two, sIfS, sTB, sTruth, truth, sRet, sRetN, sSkip, sDrop, sIf, sOr, sAnd, sNot, sAndV, sOrV, sNotV, sUn, sChain, sGive, fLst, fList, fCall, sOwn, sCall, sCallI, owned, ownedL, gSet, upS, set_1, set_2, set_3, hLen_l, hLen_t, sAppend, apD, sPop, small0, small1, small2, small3, small4, small5, gLt, gLe, gGt, gGe, gAdd, gSub, gNeg, gEq_ii, gNe_ii, hAbs, hInt, gIx_l, gIx_t, gIx_f, atI_0, atI_1, atI_2, atI_3, Option.bind_some, Option.bind_none, List.getElem?_cons_zero, List.getElem?_cons_succ, List.getElem?_nil, List.set_cons_zero, List.set_cons_succ, List.length_cons, List.length_nil, if_true, if_false, Bool.not_true, Bool.not_false, Bool.false_eq_true, reduceIte, ite_true, ite_false, hpr, iVal]
    rw [sFor, hi, Option.bind_some]
    dsimp only
    rw [hl]
    rfl
  have z4 : sIfS (sNot (sTruth (sCall (F__law_same 6) (sCons (sCall F_sign_at (sCons (sVar 4) (sCons (sVar 3) sNil))) (sCons (sVar 5) sNil))))) (sRet (sC (.bl false))) sSkip [.sh s0, .ow d2, s2, .sh (.int (n : Int)), .sh (.int a), .sh (.int due), t6, t7, .no, .no, .no, .no] = some (.nx [.sh s0, .ow d2, s2, .sh (.int (n : Int)), .sh (.int a), .sh (.int due), t6, t7, .no, .no, .no, .no]) := by
    simp only [sSeq, sAsg, sOp, sVar, gName, deref, derefs, getS, force, forces, sTup, sForces, sCons, sNil, gTup, gsCons, gsNil, storeS, storable_zero, storable_succ, st_no, st_sh, st_ow, sC, sCallB, one, two, sIfS, sTB, sTruth, truth, sRet, sRetN, sSkip, sDrop, sIf, sOr, sAnd, sNot, sAndV, sOrV, sNotV, sUn, sChain, sGive, fLst, fList, fCall, sOwn, sCall, sCallI, owned, ownedL, gSet, upS, set_1, set_2, set_3, hLen_l, hLen_t, sAppend, apD, sPop, small0, small1, small2, small3, small4, small5, gLt, gLe, gGt, gGe, gAdd, gSub, gNeg, gEq_ii, gNe_ii, hAbs, hInt, gIx_l, gIx_t, gIx_f, atI_0, atI_1, atI_2, atI_3, Option.bind_some, Option.bind_none, List.getElem?_cons_zero, List.getElem?_cons_succ, List.getElem?_nil, List.set_cons_zero, List.set_cons_succ, List.length_cons, List.length_nil, if_true, if_false, Bool.not_true, Bool.not_false, Bool.false_eq_true, reduceIte, ite_true, ite_false, hs, same_int, BEq.rfl]
  rw [turnB, sSeq, z1, Option.bind_some]
  dsimp only
  rw [sSeq, z2, Option.bind_some]
  dsimp only
  rw [sSeq, z3, Option.bind_some]
  dsimp only
  exact z4
theorem turns_run {s0 : D} : ∀ (ds : List D) (d : D) (s2 s3 s4 s5 s6 s7 : Sl), DrawOk d → st s2 = true → st s3 = true → st s4 = true → st s5 = true → st s6 = true → st s7 = true → ∃ d' t2 t3 t4 t5 t6 t7, DrawOk d' ∧ st t2 = true ∧ st t3 = true ∧ st t4 = true ∧ st t5 = true ∧ st t6 = true ∧ st t7 = true ∧
    forL (gName 2) turnB ds [.sh s0, .ow d, s2, s3, s4, s5, s6, s7, .no, .no, .no, .no] = some (.nx [.sh s0, .ow d', t2, t3, t4, t5, t6, t7, .no, .no, .no, .no])
  | [], d, s2, s3, s4, s5, s6, s7, hd, h2, h3, h4, h5, h6, h7 => ⟨d, s2, s3, s4, s5, s6, s7, hd, h2, h3, h4, h5, h6, h7, rfl⟩
  | x :: ds, d, s2, s3, s4, s5, s6, s7, hd, h2, h3, h4, h5, h6, h7 => by
    obtain ⟨d1, t3, t4, t5, t6, t7, hd1, g3, g4, g5, g6, g7, e⟩ := turn_run (s0 := s0) (s2 := .sh x) hd h3 h4 h5 h6 h7
    obtain ⟨d2, u2, u3, u4, u5, u6, u7, hd2, k2, k3, k4, k5, k6, k7, ih⟩ := turns_run ds d1 (.sh x) t3 t4 t5 t6 t7 hd1 rfl g3 g4 g5 g6 g7
    refine ⟨d2, u2, u3, u4, u5, u6, u7, hd2, k2, k3, k4, k5, k6, k7, ?_⟩
    have e1 : gName 2 x [.sh s0, .ow d, s2, s3, s4, s5, s6, s7, .no, .no, .no, .no] = some [.sh s0, .ow d, .sh x, s3, s4, s5, s6, s7, .no, .no, .no, .no] := by
      simp only [gName, storeS, storable_zero, storable_succ, h2, if_true, List.set_cons_succ, List.set_cons_zero]
    rw [forL, e1, Option.bind_some, e, Option.bind_some]
    exact ih
theorem seg2 {s0 d : D} (hd : DrawOk d) : ∃ d' t2 t3 t4 t5 t6 t7, DrawOk d' ∧ st t2 = true ∧ st t3 = true ∧ st t4 = true ∧ st t5 = true ∧ st t6 = true ∧ st t7 = true ∧
    law_2 [.sh s0, .ow d, .no, .no, .no, .no, .no, .no, .no, .no, .no, .no] = some (.nx [.sh s0, .ow d', t2, t3, t4, t5, t6, t7, .no, .no, .no, .no]) := by
  obtain ⟨d', t2, t3, t4, t5, t6, t7, hd', g2, g3, g4, g5, g6, g7, e⟩ := turns_run (s0 := s0) (rangeD 0 3) d .no .no .no .no .no .no hd rfl rfl rfl rfl rfl rfl
  refine ⟨d', t2, t3, t4, t5, t6, t7, hd', g2, g3, g4, g5, g6, g7, ?_⟩
  rw [law_2, sFor, range_run (m := 3) (by rfl) (by decide), Option.bind_some]
  dsimp only
  rw [show forL (gName 2) _ (rangeD 0 3) _ = _ from e]
  rfl
end NL

namespace NL
open PySem L2
theorem same_bl {n : Nat} {x : Bool} : F__law_same (n + 1) [.bl x, .bl x] = some (.bl true) := by
  show runF 3 (b__law_same (F__law_same n)) [.bl x, .bl x] = _
  cases x <;> rfl
theorem asBools_map {α : Type} (g : α → Bool) : ∀ l : List α, asBools (l.map fun x => D.bl (g x)) = some (l.map g)
  | [] => rfl
  | x :: l => by rw [List.map_cons, asBools, asBools_map g l]; rfl
theorem same_ints {n : Nat} {l : List Nat} (hl : l.length ≤ 1000) : F__law_same (n + 2) [.tup (intD l), .tup (intD l)] = some (.bl true) := by
  show runF 3 (b__law_same (F__law_same (n + 1))) [.tup (intD l), .tup (intD l)] = _
  unfold runF
  rw [show startE 3 [.tup (intD l), .tup (intD l)] = [.sh (.tup (intD l)), .sh (.tup (intD l)), .no] from rfl]
  unfold b__law_same
  have hlen : (intD l).length = l.length := List.length_map ..
  have hf := fLc_ok (mi := sRangeI (sCons (sCallB (one hLen) (sCons (sVar 1) sNil)) sNil)) (tt := sYes) (te := sCall (F__law_same (n + 1)) (sCons (sOp gIx (sVar 0) (sVar 2)) (sCons (sOp gIx (sVar 1) (sVar 2)) sNil))) (v := 2) (u := none) (ds := rangeD 0 l.length)
    (env := [.sh (.tup (intD l)), .sh (.tup (intD l)), .no]) (env1 := [.sh (.tup (intD l)), .sh (.tup (intD l)), .no])
    (range_run (m := l.length) (by simp only [sSeq, sAsg, sOp, sVar, gName, deref, derefs, getS, force, forces, sTup, sForces, sCons, sNil, gTup, gsCons, gsNil, storeS, storable, sC, sCallB, one, two, sIfS, sTB, sTruth, truth, sRet, sRetN, sSkip, sDrop, sIf, sOr, sAnd, sNot, sAndV, sOrV, sNotV, sUn, sChain, sGive, fLst, fList, fCall, sOwn, sCall, sCallI, owned, ownedL, gSet, upS, set_1, set_2, set_3, hLen_l, hLen_t, sAppend, apD, sPop, small0, small1, small2, small3, small4, small5, gLt, gLe, gGt, gGe, gAdd, gSub, gNeg, gEq_ii, gNe_ii, hAbs, hInt, gIx_l, gIx_t, gIx_f, atI_0, atI_1, atI_2, atI_3, Option.bind_some, Option.bind_none, List.getElem?_cons_zero, List.getElem?_cons_succ, List.getElem?_nil, List.set_cons_zero, List.set_cons_succ, List.length_cons, List.length_nil, if_true, if_false, Bool.not_true, Bool.not_false, Bool.false_eq_true, reduceIte, ite_true, ite_false, hlen]) (by omega)) (small_of (by rw [rangeD_length]; omega)) (by simp) rfl (fun _ => true) (fun _ => .bl true) (fun d hd => by
      obtain ⟨i, hi, rfl⟩ := mem_rangeD hd
      refine ⟨rfl, fun _ => ?_⟩
      have hat : atI (intD l) (i : Int) = some (.int ((l[i] : Nat) : Int)) := by
        rw [atI_nat' (by omega) (by omega), Int.toNat_natCast, List.getElem?_map, List.getElem?_eq_getElem hi]; rfl
      generalize l[i] = z at hat
      simp only [sSeq, sAsg, sOp, sVar, gName, deref, derefs, getS, force, forces, sTup, sForces, sCons, sNil, gTup, gsCons, gsNil, storeS, storable, sC, sCallB, one, two, sIfS, sTB, sTruth, truth, sRet, sRetN, sSkip, sDrop, sIf, sOr, sAnd, sNot, sAndV, sOrV, sNotV, sUn, sChain, sGive, fLst, fList, fCall, sOwn, sCall, sCallI, owned, ownedL, gSet, upS, set_1, set_2, set_3, hLen_l, hLen_t, sAppend, apD, sPop, small0, small1, small2, small3, small4, small5, gLt, gLe, gGt, gGe, gAdd, gSub, gNeg, gEq_ii, gNe_ii, hAbs, hInt, gIx_l, gIx_t, gIx_f, atI_0, atI_1, atI_2, atI_3, Option.bind_some, Option.bind_none, List.getElem?_cons_zero, List.getElem?_cons_succ, List.getElem?_nil, List.set_cons_zero, List.set_cons_succ, List.length_cons, List.length_nil, if_true, if_false, Bool.not_true, Bool.not_false, Bool.false_eq_true, reduceIte, ite_true, ite_false, hat, same_int, BEq.rfl])
  have hall : hAll (.lst ((rangeD 0 l.length).map fun _ => D.bl true)) = some (.bl true) := by
    unfold hAll itemsL
    have hb := asBools_map (fun _ : D => true) (rangeD 0 l.length)
    have ht : ((rangeD 0 l.length).map fun _ : D => true).all id = true := by
      rw [List.all_map]; exact List.all_eq_true.mpr fun _ _ => rfl
    generalize (rangeD 0 l.length).map (fun _ => D.bl true) = bs at hb ⊢
    generalize (rangeD 0 l.length).map (fun _ : D => true) = cs at hb ht
    simp only [Option.bind_some, hb, ht]
  rw [show (rangeD 0 l.length).filter (fun _ => true) = rangeD 0 l.length from List.filter_eq_self.mpr fun _ _ => rfl] at hf
  generalize (rangeD 0 l.length).map (fun _ => D.bl true) = bs at hf hall
  have gen : ∀ X : SemF, X [.sh (.tup (intD l)), .sh (.tup (intD l)), .no] = some (.lst bs, [.sh (.tup (intD l)), .sh (.tup (intD l)), .no]) → sRet (sCallB (one hAll) (sCons (sGive X) sNil)) [.sh (.tup (intD l)), .sh (.tup (intD l)), .no] = some (.rt (.bl true) [.sh (.tup (intD l)), .sh (.tup (intD l)), .no]) := fun X hX => by
    simp only [sSeq, sAsg, sOp, sVar, gName, deref, derefs, getS, force, forces, sTup, sForces, sCons, sNil, gTup, gsCons, gsNil, storeS, storable, sC, sCallB, one, two, sIfS, sTB, sTruth, truth, sRet, sRetN, sSkip, sDrop, sIf, sOr, sAnd, sNot, sAndV, sOrV, sNotV, sUn, sChain, sGive, fLst, fList, fCall, sOwn, sCall, sCallI, owned, ownedL, gSet, upS, set_1, set_2, set_3, hLen_l, hLen_t, sAppend, apD, sPop, small0, small1, small2, small3, small4, small5, gLt, gLe, gGt, gGe, gAdd, gSub, gNeg, gEq_ii, gNe_ii, hAbs, hInt, gIx_l, gIx_t, gIx_f, atI_0, atI_1, atI_2, atI_3, Option.bind_some, Option.bind_none, List.getElem?_cons_zero, List.getElem?_cons_succ, List.getElem?_nil, List.set_cons_zero, List.set_cons_succ, List.length_cons, List.length_nil, if_true, if_false, Bool.not_true, Bool.not_false, Bool.false_eq_true, reduceIte, ite_true, ite_false, hX, hall]
  have hr := gen _ hf
  have e1 : ∀ K1 K2 : SemS, sSeq (sIfS (sTruth (sCallB (two hIsi) (sCons (sVar 1) (sCons (sTup (sCons (sC (.ty .lst)) (sCons (sC (.ty .tup)) sNil))) sNil)))) (sSeq (sIfS (sOr (sTB (sOp gNe (sCallB (two hIsi) (sCons (sVar 1) (sCons (sC (.ty .lst)) sNil))) (sCallB (two hIsi) (sCons (sVar 0) (sCons (sC (.ty .lst)) sNil))))) (sTB (sOp gNe (sCallB (two hIsi) (sCons (sVar 1) (sCons (sC (.ty .tup)) sNil))) (sCallB (two hIsi) (sCons (sVar 0) (sCons (sC (.ty .tup)) sNil)))))) (sRet (sC (.bl false))) sSkip)
    (sSeq (sIfS (sTB (sOp gNe (sCallB (one hLen) (sCons (sVar 0) sNil)) (sCallB (one hLen) (sCons (sVar 1) sNil)))) (sRet (sC (.bl false))) sSkip) K1)) sSkip) K2 [.sh (.tup (intD l)), .sh (.tup (intD l)), .no] = (K1 [.sh (.tup (intD l)), .sh (.tup (intD l)), .no]).bind fun o => match o with
      | .nx e => K2 e
      | o => some o := fun K1 K2 => by
    have a1 : sTruth (sCallB (two hIsi) (sCons (sVar 1) (sCons (sTup (sCons (sC (.ty .lst)) (sCons (sC (.ty .tup)) sNil))) sNil))) [.sh (.tup (intD l)), .sh (.tup (intD l)), .no] = some (true, [.sh (.tup (intD l)), .sh (.tup (intD l)), .no]) := rfl
    have a2 : sIfS (sOr (sTB (sOp gNe (sCallB (two hIsi) (sCons (sVar 1) (sCons (sC (.ty .lst)) sNil))) (sCallB (two hIsi) (sCons (sVar 0) (sCons (sC (.ty .lst)) sNil))))) (sTB (sOp gNe (sCallB (two hIsi) (sCons (sVar 1) (sCons (sC (.ty .tup)) sNil))) (sCallB (two hIsi) (sCons (sVar 0) (sCons (sC (.ty .tup)) sNil)))))) (sRet (sC (.bl false))) sSkip [.sh (.tup (intD l)), .sh (.tup (intD l)), .no] = some (.nx [.sh (.tup (intD l)), .sh (.tup (intD l)), .no]) := rfl
    have a3 : sIfS (sTB (sOp gNe (sCallB (one hLen) (sCons (sVar 0) sNil)) (sCallB (one hLen) (sCons (sVar 1) sNil)))) (sRet (sC (.bl false))) sSkip [.sh (.tup (intD l)), .sh (.tup (intD l)), .no] = some (.nx [.sh (.tup (intD l)), .sh (.tup (intD l)), .no]) := by
      simp only [sSeq, sAsg, sOp, sVar, gName, deref, derefs, getS, force, forces, sTup, sForces, sCons, sNil, gTup, gsCons, gsNil, storeS, storable, sC, sCallB, one, two, sIfS, sTB, sTruth, truth, sRet, sRetN, sSkip, sDrop, sIf, sOr, sAnd, sNot, sAndV, sOrV, sNotV, sUn, sChain, sGive, fLst, fList, fCall, sOwn, sCall, sCallI, owned, ownedL, gSet, upS, set_1, set_2, set_3, hLen_l, hLen_t, sAppend, apD, sPop, small0, small1, small2, small3, small4, small5, gLt, gLe, gGt, gGe, gAdd, gSub, gNeg, gEq_ii, gNe_ii, hAbs, hInt, gIx_l, gIx_t, gIx_f, atI_0, atI_1, atI_2, atI_3, Option.bind_some, Option.bind_none, List.getElem?_cons_zero, List.getElem?_cons_succ, List.getElem?_nil, List.set_cons_zero, List.set_cons_succ, List.length_cons, List.length_nil, if_true, if_false, Bool.not_true, Bool.not_false, Bool.false_eq_true, reduceIte, ite_true, ite_false, hlen, BEq.rfl]
    rw [sSeq, sIfS, a1, Option.bind_some]
    simp only [if_true]
    rw [sSeq, a2, Option.bind_some]
    dsimp only
    rw [sSeq, a3, Option.bind_some]
    all_goals rfl
  rw [e1, hr]
  all_goals rfl
section
variable {s0 d : D} {s2 s3 s4 s5 s6 s7 : Sl}
theorem seg3 (hd : DrawOk d) : ∃ (d' : D) (p : Nat), DrawOk d' ∧ p ∈ ptab ∧ law_3 [.sh s0, .ow d, s2, s3, s4, s5, s6, s7, .no, .no, .no, .no] = some (.nx [.sh s0, .ow d', s2, s3, s4, s5, s6, s7, .sh (.int (p : Int)), .no, .no, .no]) := by
  obtain ⟨v, d1, e1, a1, b1, hd1⟩ := next_ok (many := 13) hd (by decide) (by decide)
  have hv : v.toNat < ptab.length := by show v.toNat < 13; omega
  refine ⟨d1, ptab[v.toNat], hd1, List.getElem_mem hv, ?_⟩
  have hat : atI (intD ptab) v = some (.int ((ptab[v.toNat] : Nat) : Int)) := by
    rw [atI_nat' a1 (by rw [List.length_map]; show v < 13; omega), List.getElem?_map, List.getElem?_eq_getElem hv]; rfl
  generalize ptab[v.toNat] = p at hat
  have hl : fLst (sCons (sC (.int 2)) (sCons (sC (.int 3)) (sCons (sC (.int 5)) (sCons (sC (.int 7)) (sCons (sC (.int 11)) (sCons (sC (.int 13)) (sCons (sC (.int 17)) (sCons (sC (.int 41)) (sCons (sC (.int 73)) (sCons (sC (.int 97)) (sCons (sC (.int 193)) (sCons (sC (.int 257)) (sCons (sC (.int 401)) sNil))))))))))))) [.sh s0, .ow d, s2, s3, s4, s5, s6, s7, .no, .no, .no, .no] = some (.lst (intD ptab), [.sh s0, .ow d, s2, s3, s4, s5, s6, s7, .no, .no, .no, .no]) := rfl
  have gen : ∀ X : SemF, X [.sh s0, .ow d, s2, s3, s4, s5, s6, s7, .no, .no, .no, .no] = some (.lst (intD ptab), [.sh s0, .ow d, s2, s3, s4, s5, s6, s7, .no, .no, .no, .no]) → sAsg (sOp gIx (sGive X) (sCallI F__law_next 1 (sCons (sC (.int 13)) sNil))) (gName 8) [.sh s0, .ow d, s2, s3, s4, s5, s6, s7, .no, .no, .no, .no] = some (.nx [.sh s0, .ow d1, s2, s3, s4, s5, s6, s7, .sh (.int (p : Int)), .no, .no, .no]) := fun X hX => by
    simp only [sSeq, sAsg, sOp, sVar, gName, deref, derefs, getS, force, forces, sTup, sForces, sCons, sNil, gTup, gsCons, gsNil, storeS, storable_zero, storable_succ, st_no, st_sh, st_ow, sC, sCallB, one, two, sIfS, sTB, sTruth, truth, sRet, sRetN, sSkip, sDrop, sIf, sOr, sAnd, sNot, sAndV, sOrV, sNotV, sUn, sChain, sGive, fLst, fList, fCall, sOwn, sCall, sCallI, owned, ownedL, gSet, upS, set_1, set_2, set_3, hLen_l, hLen_t, sAppend, apD, sPop, small0, small1, small2, small3, small4, small5, gLt, gLe, gGt, gGe, gAdd, gSub, gNeg, gEq_ii, gNe_ii, hAbs, hInt, gIx_l, gIx_t, gIx_f, atI_0, atI_1, atI_2, atI_3, Option.bind_some, Option.bind_none, List.getElem?_cons_zero, List.getElem?_cons_succ, List.getElem?_nil, List.set_cons_zero, List.set_cons_succ, List.length_cons, List.length_nil, if_true, if_false, Bool.not_true, Bool.not_false, Bool.false_eq_true, reduceIte, ite_true, ite_false, hX, e1, hat]
  exact gen _ hl
theorem near8 {p : Nat} {a : Int} (hp : 0 < p) (hp2 : p ≤ 1000) (ha : a.natAbs ≤ 1000) : fLc (sRangeI (sCons (sVar 8) sNil)) [11] (gName 11) (sTB (sOp gEq (sOp gMod (sOp gSub (sOp gMul (sVar 11) (sVar 11)) (sVar 4)) (sVar 8)) (sC (.int 0)))) (sVar 11)
    [.sh s0, .ow d, s2, s3, .sh (.int a), s5, s6, s7, .sh (.int (p : Int)), .no, .no, .no] = some (.lst (intD (nears a p)), [.sh s0, .ow d, s2, s3, .sh (.int a), s5, s6, s7, .sh (.int (p : Int)), .no, .no, .no]) := by
  have hf := fLc_ok (mi := sRangeI (sCons (sVar 8) sNil)) (tt := sTB (sOp gEq (sOp gMod (sOp gSub (sOp gMul (sVar 11) (sVar 11)) (sVar 4)) (sVar 8)) (sC (.int 0)))) (te := sVar 11) (v := 11) (u := none) (ds := rangeD 0 p)
    (env := [.sh s0, .ow d, s2, s3, .sh (.int a), s5, s6, s7, .sh (.int (p : Int)), .no, .no, .no]) (env1 := [.sh s0, .ow d, s2, s3, .sh (.int a), s5, s6, s7, .sh (.int (p : Int)), .no, .no, .no])
    (range_run (by rfl) (by omega)) (small_of (by rw [rangeD_length]; omega)) (by simp) rfl (fun d => match d with | .int t => (t * t - a) % p == 0 | _ => false) id (fun d hd => by
      obtain ⟨i, hi, rfl⟩ := mem_rangeD hd
      have m1 : mulOk i i = true := mulOk_of (sm (n := 1000) (by omega) (by omega) (by decide)) (sm (n := 1000) (by omega) (by omega) (by decide))
      have hpi : (0 : Int) < p := by omega
      exact ⟨by simp only [sSeq, sAsg, sOp, sVar, gName, deref, derefs, getS, force, forces, sTup, sForces, sCons, sNil, gTup, gsCons, gsNil, storeS, storable, sC, sCallB, one, two, sIfS, sTB, sTruth, truth, sRet, sRetN, sSkip, sDrop, sIf, sOr, sAnd, sNot, sAndV, sOrV, sNotV, sUn, sChain, sGive, fLst, fList, fCall, sOwn, sCall, sCallI, owned, ownedL, gSet, upS, set_1, set_2, set_3, hLen_l, hLen_t, sAppend, apD, sPop, small0, small1, small2, small3, small4, small5, gLt, gLe, gGt, gGe, gAdd, gSub, gNeg, gEq_ii, gNe_ii, hAbs, hInt, gIx_l, gIx_t, gIx_f, atI_0, atI_1, atI_2, atI_3, Option.bind_some, Option.bind_none, List.getElem?_cons_zero, List.getElem?_cons_succ, List.getElem?_nil, List.set_cons_zero, List.set_cons_succ, List.length_cons, List.length_nil, if_true, if_false, Bool.not_true, Bool.not_false, Bool.false_eq_true, reduceIte, ite_true, ite_false, gMul_ok m1, gMod_pos hpi], fun _ => by simp only [sSeq, sAsg, sOp, sVar, gName, deref, derefs, getS, force, forces, sTup, sForces, sCons, sNil, gTup, gsCons, gsNil, storeS, storable, sC, sCallB, one, two, sIfS, sTB, sTruth, truth, sRet, sRetN, sSkip, sDrop, sIf, sOr, sAnd, sNot, sAndV, sOrV, sNotV, sUn, sChain, sGive, fLst, fList, fCall, sOwn, sCall, sCallI, owned, ownedL, gSet, upS, set_1, set_2, set_3, hLen_l, hLen_t, sAppend, apD, sPop, small0, small1, small2, small3, small4, small5, gLt, gLe, gGt, gGe, gAdd, gSub, gNeg, gEq_ii, gNe_ii, hAbs, hInt, gIx_l, gIx_t, gIx_f, atI_0, atI_1, atI_2, atI_3, Option.bind_some, Option.bind_none, List.getElem?_cons_zero, List.getElem?_cons_succ, List.getElem?_nil, List.set_cons_zero, List.set_cons_succ, List.length_cons, List.length_nil, if_true, if_false, Bool.not_true, Bool.not_false, Bool.false_eq_true, reduceIte, ite_true, ite_false, id]⟩)
  rw [hf, List.map_id, filter_rangeD]
  rfl
end
theorem asNats_inv : ∀ {l : List D} {r : List Nat}, asNats l = some r → l = intD r
  | [], r, h => by cases h; rfl
  | d :: l, r, h => by
    unfold asNats at h
    split at h
    · rename_i e; cases e
    · rename_i a l' e
      cases e
      obtain ⟨r', h1, h2⟩ := Option.bind_eq_some_iff.mp h
      cases h2
      rw [asNats_inv h1]; rfl
    · cases h
theorem ptab_ok : ∀ p ∈ ptab, 0 < p ∧ p ≤ 401 := by decide
theorem nears_roots {a : Int} {p : Nat} (hp : 0 < p) : nears a p = rootsN p (a % p).toNat := by
  unfold nears rootsN
  apply List.filter_congr
  intro t _
  apply bool_iff
  simp only [beq_iff_eq]
  have h0 : 0 ≤ a % (p : Int) := Int.emod_nonneg _ (by omega)
  have e1 := Int.emod_eq_emod_iff_emod_sub_eq_zero (m := (t : Int) * t) (n := (p : Int)) (k := a)
  have e2 : ((t * t % p : Nat) : Int) = (t : Int) * t % p := by simp
  rw [← e1, ← e2]
  omega
theorem roots_ok {a : Int} {p : Nat} (hp : p ∈ ptab) : F_prime_roots [.int a, .int (p : Int)] = some (.tup (intD (nears a p))) := by
  obtain ⟨h0, h1⟩ := ptab_ok p hp
  have hr0 : 0 ≤ a % (p : Int) := Int.emod_nonneg _ (by omega)
  have hr1 : a % (p : Int) < p := Int.emod_lt_of_pos _ (by omega)
  have hc := List.all_eq_true.mp (List.all_eq_true.mp chkR p hp) (a % p).toNat (List.mem_range.mpr (by omega))
  have hsame : F_prime_roots [.int a, .int (p : Int)] = F_prime_roots [.int ((a % p).toNat : Int), .int (p : Int)] := by
    have hpi : (0 : Int) < p := by omega
    rw [show (((a % (p : Int)).toNat : Nat) : Int) = a % p by omega]
    unfold F_prime_roots runF
    rw [show startE 3 [.int a, .int (p : Int)] = [.sh (.int a), .sh (.int (p : Int)), .no] from rfl, show startE 3 [.int (a % p), .int (p : Int)] = [.sh (.int (a % p)), .sh (.int (p : Int)), .no] from rfl]
    unfold b_prime_roots
    have e1 : ∀ x : Int, sAsg (sOp gMod (sVar 0) (sVar 1)) (gName 0) [.sh (.int x), .sh (.int (p : Int)), .no] = some (.nx [.sh (.int (x % p)), .sh (.int (p : Int)), .no]) := fun x => by simp only [sSeq, sAsg, sOp, sVar, gName, deref, derefs, getS, force, forces, sTup, sForces, sCons, sNil, gTup, gsCons, gsNil, storeS, storable, sC, sCallB, one, two, sIfS, sTB, sTruth, truth, sRet, sRetN, sSkip, sDrop, sIf, sOr, sAnd, sNot, sAndV, sOrV, sNotV, sUn, sChain, sGive, fLst, fList, fCall, sOwn, sCall, sCallI, owned, ownedL, gSet, upS, set_1, set_2, set_3, hLen_l, hLen_t, sAppend, apD, sPop, small0, small1, small2, small3, small4, small5, gLt, gLe, gGt, gGe, gAdd, gSub, gNeg, gEq_ii, gNe_ii, hAbs, hInt, gIx_l, gIx_t, gIx_f, atI_0, atI_1, atI_2, atI_3, Option.bind_some, Option.bind_none, List.getElem?_cons_zero, List.getElem?_cons_succ, List.getElem?_nil, List.set_cons_zero, List.set_cons_succ, List.length_cons, List.length_nil, if_true, if_false, Bool.not_true, Bool.not_false, Bool.false_eq_true, reduceIte, ite_true, ite_false, gMod_pos hpi]
    rw [sSeq, e1, Option.bind_some]
    conv => rhs; rw [sSeq, e1, Option.bind_some, Int.emod_emod_of_dvd _ (Int.dvd_refl _)]
  rw [hsame]
  unfold chkA at hc
  split at hc
  · rename_i l e
    rw [e, asNats_inv (eq_of_beq hc), nears_roots h0]
  · cases hc
end NL

namespace NL
open PySem L2
section
variable {s0 : D}
abbrev rootB : SemS := (sSeq (sAsg (sOp gSub (sCallI F__law_next 1 (sCons (sOp gMul (sC (.int 3)) (sVar 8)) sNil)) (sVar 8)) (gName 4))
    (sIfS (sNot (sTruth (sCall (F__law_same 6) (sCons (sCall F_prime_roots (sCons (sVar 4) (sCons (sVar 8) sNil))) (sCons (sCallB (one hTuple) (sCons (sGive (fLc (sRangeI (sCons (sVar 8) sNil)) [11] (gName 11) (sTB (sOp gEq (sOp gMod (sOp gSub (sOp gMul (sVar 11) (sVar 11)) (sVar 4)) (sVar 8)) (sC (.int 0)))) (sVar 11))) sNil)) sNil))))) (sRet (sC (.bl false))) sSkip))
theorem roots_run {p : Nat} (hp : p ∈ ptab) {d : D} {s2 s3 s4 s5 s6 s7 : Sl} (hd : DrawOk d) (h4 : st s4 = true) : ∃ d' t4, DrawOk d' ∧ st t4 = true ∧
    rootB [.sh s0, .ow d, s2, s3, s4, s5, s6, s7, .sh (.int (p : Int)), .no, .no, .no] = some (.nx [.sh s0, .ow d', s2, s3, t4, s5, s6, s7, .sh (.int (p : Int)), .no, .no, .no]) := by
  obtain ⟨p0, p1⟩ := ptab_ok p hp
  obtain ⟨v, d1, e1, a1, b1, hd1⟩ := next_ok (many := 3 * (p : Int)) hd (by omega) (Int.lt_trans (show 3 * (p : Int) < 2000 by omega) (by decide))
  have m3 : mulOk 3 p = true := mulOk_of (by decide) (sm (n := 1000) (by omega) (by omega) (by decide))
  obtain ⟨a, ha⟩ : ∃ a : Int, a = v - p := ⟨_, rfl⟩
  have hab : a.natAbs ≤ 1000 := by omega
  have hn := near8 (s0 := s0) (d := d1) (s2 := s2) (s3 := s3) (s5 := s5) (s6 := s6) (s7 := s7) p0 (by omega) hab
  have hr := roots_ok (a := a) hp
  have hl : (nears a p).length ≤ 1000 := by
    have := List.length_filter_le (fun t : Nat => ((t : Int) * t - a) % p == 0) (List.range p)
    rw [List.length_range] at this
    exact Nat.le_trans this (by omega)
  have hs := same_ints (n := 4) hl
  refine ⟨d1, .sh (.int a), hd1, rfl, ?_⟩
  have z1 : sAsg (sOp gSub (sCallI F__law_next 1 (sCons (sOp gMul (sC (.int 3)) (sVar 8)) sNil)) (sVar 8)) (gName 4) [.sh s0, .ow d, s2, s3, s4, s5, s6, s7, .sh (.int (p : Int)), .no, .no, .no] = some (.nx [.sh s0, .ow d1, s2, s3, .sh (.int a), s5, s6, s7, .sh (.int (p : Int)), .no, .no, .no]) := by
    rw [ha]
    simp only [sSeq, sAsg, sOp, sVar, gName, deref, derefs, getS, force, forces, sTup, sForces, sCons, sNil, gTup, gsCons, gsNil, storeS, storable_zero, storable_succ, st_no, st_sh, st_ow, sC, sCallB, one, two, sIfS, sTB, sTruth, truth, sRet, sRetN, sSkip, sDrop, sIf, sOr, sAnd, sNot, sAndV, sOrV, sNotV, sUn, sChain, sGive, fLst, fList, fCall, sOwn, sCall, sCallI, owned, ownedL, gSet, upS, set_1, set_2, set_3, hLen_l, hLen_t, sAppend, apD, sPop, small0, small1, small2, small3, small4, small5, gLt, gLe, gGt, gGe, gAdd, gSub, gNeg, gEq_ii, gNe_ii, hAbs, hInt, gIx_l, gIx_t, gIx_f, atI_0, atI_1, atI_2, atI_3, Option.bind_some, Option.bind_none, List.getElem?_cons_zero, List.getElem?_cons_succ, List.getElem?_nil, List.set_cons_zero, List.set_cons_succ, List.length_cons, List.length_nil, if_true, if_false, Bool.not_true, Bool.not_false, Bool.false_eq_true, reduceIte, ite_true, ite_false, gMul_ok m3, e1, h4]
  have gen : ∀ X : SemF, X [.sh s0, .ow d1, s2, s3, .sh (.int a), s5, s6, s7, .sh (.int (p : Int)), .no, .no, .no] = some (.lst (intD (nears a p)), [.sh s0, .ow d1, s2, s3, .sh (.int a), s5, s6, s7, .sh (.int (p : Int)), .no, .no, .no]) →
      sIfS (sNot (sTruth (sCall (F__law_same 6) (sCons (sCall F_prime_roots (sCons (sVar 4) (sCons (sVar 8) sNil))) (sCons (sCallB (one hTuple) (sCons (sGive X) sNil)) sNil))))) (sRet (sC (.bl false))) sSkip [.sh s0, .ow d1, s2, s3, .sh (.int a), s5, s6, s7, .sh (.int (p : Int)), .no, .no, .no] = some (.nx [.sh s0, .ow d1, s2, s3, .sh (.int a), s5, s6, s7, .sh (.int (p : Int)), .no, .no, .no]) := fun X hX => by
    simp only [sSeq, sAsg, sOp, sVar, gName, deref, derefs, getS, force, forces, sTup, sForces, sCons, sNil, gTup, gsCons, gsNil, storeS, storable_zero, storable_succ, st_no, st_sh, st_ow, sC, sCallB, one, two, sIfS, sTB, sTruth, truth, sRet, sRetN, sSkip, sDrop, sIf, sOr, sAnd, sNot, sAndV, sOrV, sNotV, sUn, sChain, sGive, fLst, fList, fCall, sOwn, sCall, sCallI, owned, ownedL, gSet, upS, set_1, set_2, set_3, hLen_l, hLen_t, sAppend, apD, sPop, small0, small1, small2, small3, small4, small5, gLt, gLe, gGt, gGe, gAdd, gSub, gNeg, gEq_ii, gNe_ii, hAbs, hInt, gIx_l, gIx_t, gIx_f, atI_0, atI_1, atI_2, atI_3, Option.bind_some, Option.bind_none, List.getElem?_cons_zero, List.getElem?_cons_succ, List.getElem?_nil, List.set_cons_zero, List.set_cons_succ, List.length_cons, List.length_nil, if_true, if_false, Bool.not_true, Bool.not_false, Bool.false_eq_true, reduceIte, ite_true, ite_false, hr, hX, hTuple, items, hs]
  rw [rootB, sSeq, z1, Option.bind_some]
  dsimp only
  exact gen _ hn
theorem rturns_run {p : Nat} (hp : p ∈ ptab) : ∀ (ds : List D) (d : D) (s2 s3 s4 s5 s6 s7 : Sl), DrawOk d → st s2 = true → st s4 = true → ∃ d' t2 t4, DrawOk d' ∧ st t2 = true ∧ st t4 = true ∧
    forL (gName 2) rootB ds [.sh s0, .ow d, s2, s3, s4, s5, s6, s7, .sh (.int (p : Int)), .no, .no, .no] = some (.nx [.sh s0, .ow d', t2, s3, t4, s5, s6, s7, .sh (.int (p : Int)), .no, .no, .no])
  | [], d, s2, s3, s4, s5, s6, s7, hd, h2, h4 => ⟨d, s2, s4, hd, h2, h4, rfl⟩
  | x :: ds, d, s2, s3, s4, s5, s6, s7, hd, h2, h4 => by
    obtain ⟨d1, t4, hd1, g4, e⟩ := roots_run (s0 := s0) (s2 := .sh x) (s3 := s3) (s5 := s5) (s6 := s6) (s7 := s7) hp hd h4
    obtain ⟨d2, u2, u4, hd2, k2, k4, ih⟩ := rturns_run hp ds d1 (.sh x) s3 t4 s5 s6 s7 hd1 rfl g4
    refine ⟨d2, u2, u4, hd2, k2, k4, ?_⟩
    have e1 : gName 2 x [.sh s0, .ow d, s2, s3, s4, s5, s6, s7, .sh (.int (p : Int)), .no, .no, .no] = some [.sh s0, .ow d, .sh x, s3, s4, s5, s6, s7, .sh (.int (p : Int)), .no, .no, .no] := by
      simp only [gName, storeS, storable_zero, storable_succ, h2, if_true, List.set_cons_succ, List.set_cons_zero]
    rw [forL, e1, Option.bind_some, e, Option.bind_some]
    exact ih
theorem seg4 {p : Nat} (hp : p ∈ ptab) {d : D} {s2 s3 s4 s5 s6 s7 : Sl} (hd : DrawOk d) (h2 : st s2 = true) (h4 : st s4 = true) : ∃ d' t2 t4, DrawOk d' ∧ st t2 = true ∧ st t4 = true ∧
    law_4 [.sh s0, .ow d, s2, s3, s4, s5, s6, s7, .sh (.int (p : Int)), .no, .no, .no] = some (.nx [.sh s0, .ow d', t2, s3, t4, s5, s6, s7, .sh (.int (p : Int)), .no, .no, .no]) := by
  obtain ⟨d', t2, t4, hd', g2, g4, e⟩ := rturns_run (s0 := s0) hp (rangeD 0 4) d s2 s3 s4 s5 s6 s7 hd h2 h4
  refine ⟨d', t2, t4, hd', g2, g4, ?_⟩
  rw [law_4, sFor, range_run (m := 4) (by rfl) (by decide), Option.bind_some]
  dsimp only
  rw [show forL (gName 2) _ (rangeD 0 4) _ = _ from e]
  rfl
theorem seg5 {d : D} {s2 s3 s4 s5 s6 s7 s8 : Sl} (hd : DrawOk d) (h3 : st s3 = true) : ∃ (d' : D) (n : Int), DrawOk d' ∧ -100 ≤ n ∧ n < 800 ∧ law_5 [.sh s0, .ow d, s2, s3, s4, s5, s6, s7, s8, .no, .no, .no] = some (.nx [.sh s0, .ow d', s2, .sh (.int n), s4, s5, s6, s7, s8, .no, .no, .no]) := by
  obtain ⟨v, d1, e1, a1, b1, hd1⟩ := next_ok (many := 900) hd (by decide) (by decide)
  refine ⟨d1, v - 100, hd1, by omega, by omega, ?_⟩
  unfold law_5
  simp only [sSeq, sAsg, sOp, sVar, gName, deref, derefs, getS, force, forces, sTup, sForces, sCons, sNil, gTup, gsCons, gsNil, storeS, storable_zero, storable_succ, st_no, st_sh, st_ow, sC, sCallB, one, two, sIfS, sTB, sTruth, truth, sRet, sRetN, sSkip, sDrop, sIf, sOr, sAnd, sNot, sAndV, sOrV, sNotV, sUn, sChain, sGive, fLst, fList, fCall, sOwn, sCall, sCallI, owned, ownedL, gSet, upS, set_1, set_2, set_3, hLen_l, hLen_t, sAppend, apD, sPop, small0, small1, small2, small3, small4, small5, gLt, gLe, gGt, gGe, gAdd, gSub, gNeg, gEq_ii, gNe_ii, hAbs, hInt, gIx_l, gIx_t, gIx_f, atI_0, atI_1, atI_2, atI_3, Option.bind_some, Option.bind_none, List.getElem?_cons_zero, List.getElem?_cons_succ, List.getElem?_nil, List.set_cons_zero, List.set_cons_succ, List.length_cons, List.length_nil, if_true, if_false, Bool.not_true, Bool.not_false, Bool.false_eq_true, reduceIte, ite_true, ite_false, e1, h3]
/-! whole roots -/
def sqs : List D := (rangeD 0 32).map fun d => match d with | .int t => .int (t * t) | _ => .non
def chkS (k : Nat) : Bool := match F_is_square [.int ((k : Int) - 100)], gIn (.int ((k : Int) - 100)) (.lst sqs) with
  | some (.bl x), some (.bl y) => x == y
  | _, _ => false
theorem chkQ : ((List.range 900).all chkS) = true := by decide +kernel
theorem seg6 {d : D} {n : Int} {s2 s4 s5 s6 s7 s8 : Sl} (h0 : -100 ≤ n) (h1 : n < 800) : law_6 [.sh s0, .ow d, s2, .sh (.int n), s4, s5, s6, s7, s8, .no, .no, .no] = some (.nx [.sh s0, .ow d, s2, .sh (.int n), s4, s5, s6, s7, s8, .no, .no, .no]) := by
  have hc := List.all_eq_true.mp chkQ (n + 100).toNat (List.mem_range.mpr (by omega))
  unfold chkS at hc
  rw [show (((n + 100).toNat : Nat) : Int) - 100 = n by omega] at hc
  have hf := fLc_ok (mi := sRangeI (sCons (sC (.int 32)) sNil)) (tt := sYes) (te := sOp gMul (sVar 11) (sVar 11)) (v := 11) (u := none) (ds := rangeD 0 32)
    (env := [.sh s0, .ow d, s2, .sh (.int n), s4, s5, s6, s7, s8, .no, .no, .no]) (env1 := [.sh s0, .ow d, s2, .sh (.int n), s4, s5, s6, s7, s8, .no, .no, .no])
    (range_run (m := 32) (by rfl) (by decide)) (small_of (by rw [rangeD_length]; decide)) (by simp) rfl (fun _ => true) (fun d => match d with | .int t => .int (t * t) | _ => .non) (fun d hd => by
      obtain ⟨i, hi, rfl⟩ := mem_rangeD hd
      have m1 : mulOk i i = true := mulOk_of (sm (n := 1000) (by omega) (by omega) (by decide)) (sm (n := 1000) (by omega) (by omega) (by decide))
      exact ⟨rfl, fun _ => by simp only [sSeq, sAsg, sOp, sVar, gName, deref, derefs, getS, force, forces, sTup, sForces, sCons, sNil, gTup, gsCons, gsNil, storeS, storable, sC, sCallB, one, two, sIfS, sTB, sTruth, truth, sRet, sRetN, sSkip, sDrop, sIf, sOr, sAnd, sNot, sAndV, sOrV, sNotV, sUn, sChain, sGive, fLst, fList, fCall, sOwn, sCall, sCallI, owned, ownedL, gSet, upS, set_1, set_2, set_3, hLen_l, hLen_t, sAppend, apD, sPop, small0, small1, small2, small3, small4, small5, gLt, gLe, gGt, gGe, gAdd, gSub, gNeg, gEq_ii, gNe_ii, hAbs, hInt, gIx_l, gIx_t, gIx_f, atI_0, atI_1, atI_2, atI_3, Option.bind_some, Option.bind_none, List.getElem?_cons_zero, List.getElem?_cons_succ, List.getElem?_nil, List.set_cons_zero, List.set_cons_succ, List.length_cons, List.length_nil, if_true, if_false, Bool.not_true, Bool.not_false, Bool.false_eq_true, reduceIte, ite_true, ite_false, gMul_ok m1]⟩)
  rw [show (rangeD 0 32).filter (fun _ => true) = rangeD 0 32 from List.filter_eq_self.mpr fun _ _ => rfl] at hf
  have hf : fLc _ _ _ _ _ _ = some (.lst sqs, _) := hf
  split at hc
  · rename_i x y e1 e2
    have hxy := eq_of_beq hc
    subst hxy
    have gen : ∀ X : SemF, X [.sh s0, .ow d, s2, .sh (.int n), s4, s5, s6, s7, s8, .no, .no, .no] = some (.lst sqs, [.sh s0, .ow d, s2, .sh (.int n), s4, s5, s6, s7, s8, .no, .no, .no]) →
        sIfS (sNot (sTruth (sCall (F__law_same 6) (sCons (sCall F_is_square (sCons (sVar 3) sNil)) (sCons (sOp gIn (sVar 3) (sGive X)) sNil))))) (sRet (sC (.bl false))) sSkip [.sh s0, .ow d, s2, .sh (.int n), s4, s5, s6, s7, s8, .no, .no, .no] = some (.nx [.sh s0, .ow d, s2, .sh (.int n), s4, s5, s6, s7, s8, .no, .no, .no]) := fun X hX => by
      simp only [sSeq, sAsg, sOp, sVar, gName, deref, derefs, getS, force, forces, sTup, sForces, sCons, sNil, gTup, gsCons, gsNil, storeS, storable_zero, storable_succ, st_no, st_sh, st_ow, sC, sCallB, one, two, sIfS, sTB, sTruth, truth, sRet, sRetN, sSkip, sDrop, sIf, sOr, sAnd, sNot, sAndV, sOrV, sNotV, sUn, sChain, sGive, fLst, fList, fCall, sOwn, sCall, sCallI, owned, ownedL, gSet, upS, set_1, set_2, set_3, hLen_l, hLen_t, sAppend, apD, sPop, small0, small1, small2, small3, small4, small5, gLt, gLe, gGt, gGe, gAdd, gSub, gNeg, gEq_ii, gNe_ii, hAbs, hInt, gIx_l, gIx_t, gIx_f, atI_0, atI_1, atI_2, atI_3, Option.bind_some, Option.bind_none, List.getElem?_cons_zero, List.getElem?_cons_succ, List.getElem?_nil, List.set_cons_zero, List.set_cons_succ, List.length_cons, List.length_nil, if_true, if_false, Bool.not_true, Bool.not_false, Bool.false_eq_true, reduceIte, ite_true, ite_false, hX, e1, e2, same_bl]
    exact gen _ hf
  · cases hc
theorem seg7 {d : D} {n : Int} {s2 s4 s5 s6 s7 s8 : Sl} (hd : DrawOk d) (h0 : -100 ≤ n) (h1 : n < 800) : ∃ (d' : D) (g : Nat), g < 10000000000000000 ∧ law_7 [.sh s0, .ow d, s2, .sh (.int n), s4, s5, s6, s7, s8, .no, .no, .no] = some (.nx [.sh s0, .ow d', s2, .sh (.int n), s4, s5, s6, s7, s8, .sh (.int (g : Int)), .no, .no]) := by
  obtain ⟨v, d1, e1, a1, b1, hd1⟩ := next_ok (many := 3) hd (by decide) (by decide)
  obtain ⟨w, d2, e2, a2, b2, hd2⟩ := next_ok (many := 5) hd1 (by decide) (by decide)
  have pw : gPow (.int 10) (.int 12) = some (.int 1000000000000) := rfl
  obtain ⟨f, hf, hat, hfb⟩ : ∃ f : Int, (0 ≤ f ∧ f ≤ 1000000000039) ∧ atI [D.int 1, .int 1000003, .int 1000000000039] v = some (.int f) ∧ mulOk n.natAbs f = true := by
    have hm : ∀ f : Int, 0 ≤ f → f ≤ 1000000000039 → mulOk n.natAbs f = true := fun f h0 h1 => mulOk_of (sm (n := 1000) (by omega) (by omega) (by decide)) (sm (n := 10 ^ 13) (by omega) (by omega) (by decide))
    rcases (show v = 0 ∨ v = 1 ∨ v = 2 by omega) with rfl | rfl | rfl
    · exact ⟨1, by decide, rfl, hm _ (by decide) (by decide)⟩
    · exact ⟨1000003, by decide, rfl, hm _ (by decide) (by decide)⟩
    · exact ⟨1000000000039, by decide, rfl, hm _ (by decide) (by decide)⟩
  have hg0 : 0 ≤ (n.natAbs : Int) * f := Int.mul_nonneg (by omega) hf.1
  have hg1 : (n.natAbs : Int) * f ≤ 800 * 1000000000039 := Int.mul_le_mul (by omega) hf.2 hf.1 (by decide)
  refine ⟨d2, ((n.natAbs : Int) * f + w).toNat, by omega, ?_⟩
  rw [show ((((n.natAbs : Int) * f + w).toNat : Nat) : Int) = (n.natAbs : Int) * f + w by omega]
  have abs_nat : (if n < 0 then -n else n) = (n.natAbs : Int) := by split <;> omega
  unfold law_7
  simp only [sSeq, sAsg, sOp, sVar, gName, deref, derefs, getS, force, forces, sTup, sForces, sCons, sNil, gTup, gsCons, gsNil, storeS, storable_zero, storable_succ, st_no, st_sh, st_ow, sC, sCallB, one, two, sIfS, sTB, sTruth, truth, sRet, sRetN, sSkip, sDrop, sIf, sOr, sAnd, sNot, sAndV, sOrV, sNotV, sUn, sChain, sGive, fLst, fList, fCall, sOwn, sCall, sCallI, owned, ownedL, gSet, upS, set_1, set_2, set_3, hLen_l, hLen_t, sAppend, apD, sPop, small0, small1, small2, small3, small4, small5, gLt, gLe, gGt, gGe, gAdd, gSub, gNeg, gEq_ii, gNe_ii, hAbs, hInt, gIx_l, gIx_t, gIx_f, atI_0, atI_1, atI_2, atI_3, Option.bind_some, Option.bind_none, List.getElem?_cons_zero, List.getElem?_cons_succ, List.getElem?_nil, List.set_cons_zero, List.set_cons_succ, List.length_cons, List.length_nil, if_true, if_false, Bool.not_true, Bool.not_false, Bool.false_eq_true, reduceIte, ite_true, ite_false, e1, e2, pw, abs_nat, hat, gMul_ok hfb, show (1000000000000 : Int) + 39 = 1000000000039 by decide]
end
theorem isq_sq (t : Nat) : Float64.isqrt (t * t) = t := by
  obtain ⟨h1, h2⟩ := Float64.isqrt_spec (t * t)
  generalize Float64.isqrt (t * t) = s at h1 h2
  have a1 : s ≤ t := Nat.mul_self_le_mul_self_iff.mp h1
  have a2 : t < s + 1 := Nat.mul_self_lt_mul_self_iff.mp h2
  omega
theorem isq_b : (10000000000000000 : Int) < 2 ^ 64 := by decide
theorem isq_run {z : Nat} (hz : z < 10000000000000000) : hIsqrt (.int (z : Int)) = some (.int (Float64.isqrt z : Nat)) := by
  have h0 : decide ((0 : Int) ≤ (z : Int)) = true := decide_eq_true (Int.natCast_nonneg z)
  have h1 : decide ((z : Int) < 2 ^ 64) = true := decide_eq_true (Int.lt_trans (Int.ofNat_lt.mpr hz) isq_b)
  unfold hIsqrt
  dsimp only
  rw [h0, h1]
  rfl
theorem root_lt {t g : Nat} (h1 : t * t ≤ g) (hg : g < 10000000000000000) : t < 1000000000 := by
  have h3 : t * t < 1000000000 * 1000000000 := Nat.lt_of_le_of_lt h1 (Nat.lt_trans hg (by decide))
  exact Nat.mul_self_lt_mul_self_iff.mp h3
theorem root_mul {t : Nat} (ht : t < 1000000000) : mulOk t t = true ∧ mulOk ((t : Int) + 1) ((t : Int) + 1) = true :=
  ⟨mulOk_of (sm (n := 10 ^ 10) (by omega) (by omega) (by decide)) (sm (n := 10 ^ 10) (by omega) (by omega) (by decide)), mulOk_of (sm (n := 10 ^ 10) (by omega) (by omega) (by decide)) (sm (n := 10 ^ 10) (by omega) (by omega) (by decide))⟩

theorem genR {g t : Int} (f : D → Option D) (h : f (.int g) = some (.int t)) : runF 1 (sRet (sCallB (one f) (sCons (sVar 0) sNil))) [.int g] = some (.int t) := by
  unfold runF
  rw [show startE 1 [.int g] = [.sh (.int g)] from rfl]
  simp only [sSeq, sAsg, sOp, sVar, gName, deref, derefs, getS, force, forces, sTup, sForces, sCons, sNil, gTup, gsCons, gsNil, storeS, storable, sC, sCallB, one, two, sIfS, sTB, sTruth, truth, sRet, sRetN, sSkip, sDrop, sIf, sOr, sAnd, sNot, sAndV, sOrV, sNotV, sUn, sChain, sGive, fLst, fList, fCall, sOwn, sCall, sCallI, owned, ownedL, gSet, upS, set_1, set_2, set_3, hLen_l, hLen_t, sAppend, apD, sPop, small0, small1, small2, small3, small4, small5, gLt, gLe, gGt, gGe, gAdd, gSub, gNeg, gEq_ii, gNe_ii, hAbs, hInt, gIx_l, gIx_t, gIx_f, atI_0, atI_1, atI_2, atI_3, Option.bind_some, Option.bind_none, List.getElem?_cons_zero, List.getElem?_cons_succ, List.getElem?_nil, List.set_cons_zero, List.set_cons_succ, List.length_cons, List.length_nil, if_true, if_false, Bool.not_true, Bool.not_false, Bool.false_eq_true, reduceIte, ite_true, ite_false, h]
theorem hrT {g t : Nat} (hi : hIsqrt (.int (g : Int)) = some (.int (t : Int))) : F_root_below [.int (g : Int)] = some (.int (t : Int)) := genR hIsqrt hi
theorem genS {q t : Int} (f : D → Option D) (h : f (.int q) = some (.int t)) (m1 : mulOk t t = true) (hge : decide (0 ≤ q) = true) (hbq : (t * t == q) = true) :
    runF 1 (sRet (sAndV (sOp gGe (sVar 0) (sC (.int 0))) (sOp gEq (sOp gMul (sCallB (one f) (sCons (sVar 0) sNil)) (sCallB (one f) (sCons (sVar 0) sNil))) (sVar 0)))) [.int q] = some (.bl true) := by
  unfold runF
  rw [show startE 1 [.int q] = [.sh (.int q)] from rfl]
  simp only [sSeq, sAsg, sOp, sVar, gName, deref, derefs, getS, force, forces, sTup, sForces, sCons, sNil, gTup, gsCons, gsNil, storeS, storable, sC, sCallB, one, two, sIfS, sTB, sTruth, truth, sRet, sRetN, sSkip, sDrop, sIf, sOr, sAnd, sNot, sAndV, sOrV, sNotV, sUn, sChain, sGive, fLst, fList, fCall, sOwn, sCall, sCallI, owned, ownedL, gSet, upS, set_1, set_2, set_3, hLen_l, hLen_t, sAppend, apD, sPop, small0, small1, small2, small3, small4, small5, gLt, gLe, gGt, gGe, gAdd, gSub, gNeg, gEq_ii, gNe_ii, hAbs, hInt, gIx_l, gIx_t, gIx_f, atI_0, atI_1, atI_2, atI_3, Option.bind_some, Option.bind_none, List.getElem?_cons_zero, List.getElem?_cons_succ, List.getElem?_nil, List.set_cons_zero, List.set_cons_succ, List.length_cons, List.length_nil, if_true, if_false, Bool.not_true, Bool.not_false, Bool.false_eq_true, reduceIte, ite_true, ite_false, h, gMul_ok m1, hge, hbq]
theorem hsqT {t : Nat} (m1 : mulOk t t = true) (hi2 : hIsqrt (.int ((t * t : Nat) : Int)) = some (.int (t : Int))) : F_is_square [.int ((t : Int) * t)] = some (.bl true) := by
  have c1 : ((t * t : Nat) : Int) = (t : Int) * t := by simp
  rw [← c1]
  exact genS hIsqrt hi2 m1 (decide_eq_true (Int.natCast_nonneg _)) (by rw [c1]; exact BEq.rfl)
theorem isq_both {g : Nat} (hg : g < 10000000000000000) : ∃ t : Nat, t * t ≤ g ∧ g < (t + 1) * (t + 1) ∧ hIsqrt (.int (g : Int)) = some (.int (t : Int)) ∧ hIsqrt (.int ((t * t : Nat) : Int)) = some (.int (t : Int)) := by
  obtain ⟨h1, h2⟩ := Float64.isqrt_spec g
  refine ⟨Float64.isqrt g, h1, h2, isq_run hg, ?_⟩
  have h := isq_run (Nat.lt_of_le_of_lt h1 hg)
  have e := isq_sq (Float64.isqrt g)
  exact h.trans (congrArg (fun z : Nat => some (D.int (z : Int))) e)
theorem e9T {s0 d : D} {n g t : Int} {s2 s4 s5 s6 s7 s8 : Sl} (m1 : mulOk t t = true) (m2 : mulOk (t + 1) (t + 1) = true) (le1 : decide (t * t ≤ g) = true) (le2 : decide (g < (t + 1) * (t + 1)) = true) (le3 : decide (0 ≤ t) = true) (hsq : F_is_square [.int (t * t)] = some (.bl true)) :
    law_9 [.sh s0, .ow d, s2, .sh (.int n), s4, s5, s6, s7, s8, .sh (.int g), .sh (.int t), .no] = some (.rt (.bl true) [.sh s0, .ow d, s2, .sh (.int n), s4, s5, s6, s7, s8, .sh (.int g), .sh (.int t), .no]) := by
  unfold law_9
  simp only [sSeq, sAsg, sOp, sVar, gName, deref, derefs, getS, force, forces, sTup, sForces, sCons, sNil, gTup, gsCons, gsNil, storeS, storable_zero, storable_succ, st_no, st_sh, st_ow, sC, sCallB, one, two, sIfS, sTB, sTruth, truth, sRet, sRetN, sSkip, sDrop, sIf, sOr, sAnd, sNot, sAndV, sOrV, sNotV, sUn, sChain, sGive, fLst, fList, fCall, sOwn, sCall, sCallI, owned, ownedL, gSet, upS, set_1, set_2, set_3, hLen_l, hLen_t, sAppend, apD, sPop, small0, small1, small2, small3, small4, small5, gLt, gLe, gGt, gGe, gAdd, gSub, gNeg, gEq_ii, gNe_ii, hAbs, hInt, gIx_l, gIx_t, gIx_f, atI_0, atI_1, atI_2, atI_3, Option.bind_some, Option.bind_none, List.getElem?_cons_zero, List.getElem?_cons_succ, List.getElem?_nil, List.set_cons_zero, List.set_cons_succ, List.length_cons, List.length_nil, if_true, if_false, Bool.not_true, Bool.not_false, Bool.false_eq_true, reduceIte, ite_true, ite_false, hIsi, tyOf, subTy, gMul_ok m1, gMul_ok m2, le1, le2, le3, hsq, gIs]
  rfl
theorem e8T {s0 d g t : D} {n : Int} {s2 s4 s5 s6 s7 s8 : Sl} (hr : F_root_below [g] = some t) : law_8 [.sh s0, .ow d, s2, .sh (.int n), s4, s5, s6, s7, s8, .sh g, .no, .no] = some (.nx [.sh s0, .ow d, s2, .sh (.int n), s4, s5, s6, s7, s8, .sh g, .sh t, .no]) := by
  unfold law_8
  generalize F_root_below = f at hr ⊢
  simp only [sSeq, sAsg, sOp, sVar, gName, deref, derefs, getS, force, forces, sTup, sForces, sCons, sNil, gTup, gsCons, gsNil, storeS, storable_zero, storable_succ, st_no, st_sh, st_ow, sC, sCallB, one, two, sIfS, sTB, sTruth, truth, sRet, sRetN, sSkip, sDrop, sIf, sOr, sAnd, sNot, sAndV, sOrV, sNotV, sUn, sChain, sGive, fLst, fList, fCall, sOwn, sCall, sCallI, owned, ownedL, gSet, upS, set_1, set_2, set_3, hLen_l, hLen_t, sAppend, apD, sPop, small0, small1, small2, small3, small4, small5, gLt, gLe, gGt, gGe, gAdd, gSub, gNeg, gEq_ii, gNe_ii, hAbs, hInt, gIx_l, gIx_t, gIx_f, atI_0, atI_1, atI_2, atI_3, Option.bind_some, Option.bind_none, List.getElem?_cons_zero, List.getElem?_cons_succ, List.getElem?_nil, List.set_cons_zero, List.set_cons_succ, List.length_cons, List.length_nil, if_true, if_false, Bool.not_true, Bool.not_false, Bool.false_eq_true, reduceIte, ite_true, ite_false, hr]
theorem seg89 {s0 d : D} {n : Int} {g : Nat} (hg : g < 10000000000000000) {s2 s4 s5 s6 s7 s8 : Sl} : ∃ e, sSeq law_8 law_9 [.sh s0, .ow d, s2, .sh (.int n), s4, s5, s6, s7, s8, .sh (.int (g : Int)), .no, .no] = some (.rt (.bl true) e) := by
  obtain ⟨t, h1, h2, hi, hi2⟩ := isq_both hg
  obtain ⟨m1, m2⟩ := root_mul (root_lt h1 hg)
  have c1 : ((t * t : Nat) : Int) = (t : Int) * t := by simp
  have c2 : (((t + 1) * (t + 1) : Nat) : Int) = ((t : Int) + 1) * ((t : Int) + 1) := by simp
  have hr := hrT hi
  have e8 := e8T (s0 := s0) (d := d) (n := n) (s2 := s2) (s4 := s4) (s5 := s5) (s6 := s6) (s7 := s7) (s8 := s8) hr
  refine ⟨[.sh s0, .ow d, s2, .sh (.int n), s4, s5, s6, s7, s8, .sh (.int (g : Int)), .sh (.int (t : Int)), .no], ?_⟩
  rw [sSeq, e8, Option.bind_some]
  dsimp only
  exact e9T m1 m2 (decide_eq_true (by rw [← c1]; exact Int.ofNat_le.mpr h1)) (decide_eq_true (by rw [← c2]; exact Int.ofNat_lt.mpr h2)) (decide_eq_true (Int.natCast_nonneg t)) (hsqT m1 hi2)
theorem seg1 (ns : List Int) : ∃ d, DrawOk d ∧ law_1 (startE 12 [.fl (ns.map .int)]) = some (.nx (.sh (.fl (ns.map .int)) :: .ow d :: List.replicate 10 .no)) := by
  refine ⟨.lst [.lst (ns.map .int), .int 0, .int 0, .int 17], ⟨ns, 0, 0, 17, rfl, by omega, by omega, by omega⟩, ?_⟩
  have h : F__law_draw [.fl (ns.map .int)] = some (.lst [.lst (ns.map .int), .int 0, .int 0, .int 17]) := by
    unfold F__law_draw runR
    rw [show startE 1 [.fl (ns.map .int)] = [.sh (.fl (ns.map .int))] from rfl]
    unfold b__law_draw
    simp [sSeq, sAsg, sOp, sVar, gName, deref, derefs, getS, force, forces, sTup, sForces, sCons, sNil, gTup, gsCons, gsNil, storeS, storable, sC, sCallB, one, two, sIfS, sTB, sTruth, truth, sRet, sRetN, sSkip, sDrop, sIf, sOr, sAnd, sNot, sAndV, sOrV, sNotV, sUn, sChain, sGive, fLst, fList, fCall, sOwn, sCall, sCallI, owned, ownedL, gSet, upS, set_1, set_2, set_3, hLen_l, hLen_t, sAppend, apD, sPop, small0, small1, small2, small3, small4, small5, gLt, gLe, gGt, gGe, gAdd, gSub, gNeg, gEq_ii, gNe_ii, hAbs, hInt, gIx_l, gIx_t, gIx_f, atI_0, atI_1, atI_2, atI_3, Option.bind_some, Option.bind_none, List.getElem?_cons_zero, List.getElem?_cons_succ, List.getElem?_nil, List.set_cons_zero, List.set_cons_succ, List.length_cons, List.length_nil, if_true, if_false, Bool.not_true, Bool.not_false, Bool.false_eq_true, reduceIte, ite_true, ite_false, hList, items]
  rw [show startE 12 [.fl (ns.map .int)] = .sh (.fl (ns.map .int)) :: List.replicate 11 .no from rfl]
  unfold law_1
  simp [sSeq, sAsg, sOp, sVar, gName, deref, derefs, getS, force, forces, sTup, sForces, sCons, sNil, gTup, gsCons, gsNil, storeS, storable, sC, sCallB, one, two, sIfS, sTB, sTruth, truth, sRet, sRetN, sSkip, sDrop, sIf, sOr, sAnd, sNot, sAndV, sOrV, sNotV, sUn, sChain, sGive, fLst, fList, fCall, sOwn, sCall, sCallI, owned, ownedL, gSet, upS, set_1, set_2, set_3, hLen_l, hLen_t, sAppend, apD, sPop, small0, small1, small2, small3, small4, small5, gLt, gLe, gGt, gGe, gAdd, gSub, gNeg, gEq_ii, gNe_ii, hAbs, hInt, gIx_l, gIx_t, gIx_f, atI_0, atI_1, atI_2, atI_3, Option.bind_some, Option.bind_none, List.getElem?_cons_zero, List.getElem?_cons_succ, List.getElem?_nil, List.set_cons_zero, List.set_cons_succ, List.length_cons, List.length_nil, if_true, if_false, Bool.not_true, Bool.not_false, Bool.false_eq_true, reduceIte, ite_true, ite_false, h, List.replicate]
theorem law_true : ∀ ns : List Int, ns.length ≤ 63 → F_law [.fl (ns.map .int)] = some (.bl true) := fun ns _ => by
  have main : ∃ e, b_law (startE 12 [.fl (ns.map .int)]) = some (.rt (.bl true) e) := by
    obtain ⟨d1, hd1, e1⟩ := seg1 ns
    generalize (D.fl (ns.map .int)) = s0 at *
    rw [b_law, sSeq, e1, Option.bind_some]
    dsimp only [List.replicate]
    obtain ⟨d2, t2, t3, t4, t5, t6, t7, hd2, g2, g3, g4, g5, g6, g7, e2⟩ := seg2 (s0 := s0) hd1
    rw [sSeq, e2, Option.bind_some]
    dsimp only
    obtain ⟨d3, p, hd3, hp, e3⟩ := seg3 (s0 := s0) (s2 := t2) (s3 := t3) (s4 := t4) (s5 := t5) (s6 := t6) (s7 := t7) hd2
    rw [sSeq, e3, Option.bind_some]
    dsimp only
    obtain ⟨d4, u2, u4, hd4, k2, k4, e4⟩ := seg4 (s0 := s0) hp (s3 := t3) (s5 := t5) (s6 := t6) (s7 := t7) hd3 g2 g4
    rw [sSeq, e4, Option.bind_some]
    dsimp only
    obtain ⟨d5, n, hd5, n0, n1, e5⟩ := seg5 (s0 := s0) (s2 := u2) (s4 := u4) (s5 := t5) (s6 := t6) (s7 := t7) (s8 := .sh (.int (p : Int))) hd4 g3
    rw [sSeq, e5, Option.bind_some]
    dsimp only
    rw [sSeq, seg6 n0 n1, Option.bind_some]
    dsimp only
    obtain ⟨d7, g, hg, e7⟩ := seg7 (s0 := s0) (s2 := u2) (s4 := u4) (s5 := t5) (s6 := t6) (s7 := t7) (s8 := .sh (.int (p : Int))) hd5 n0 n1
    rw [sSeq, e7, Option.bind_some]
    dsimp only
    exact seg89 hg
  obtain ⟨e, h⟩ := main
  unfold F_law runF
  rw [h]
end NL

open PySem PySem.W PyProof.Rows in
set_option maxHeartbeats 0 in
theorem PySem.Challenge.cw_numberlore_k05_squares_among_residues_holds : PySem.Challenge.rw_numberlore_k05_squares_among_residues.Holds := by
  w_on; o_law; k_head; (case hw => w_witness2)
  k_fill
  refine L2.walk_of (l := PySem.Challenge.rw_numberlore_k05_squares_among_residues) (n := 63) (k := 7) (x := "script") (CX := fun _ => L2.CX0) (sp := fun w => NL.spS _ 1 NL.F_law) rfl (by decide) rfl ⟨rfl, by decide, by decide⟩ (fun w h Y => PySem.W.kIn_of Y) ?F (fun _ _ a ns hl _ hS => NL.law_sp hl hS NL.law_true) (fun _ _ _ _ _ h => h)
  case F =>
    intro w mg fa h KX Gm hmg
    refine' NL.all_mk KX Gm hmg ?a0 ?l0 ?c0 ?k0 ?a1 ?l1 ?c1 ?k1 ?a2 ?l2 ?c2 ?k2 ?a3 ?l3 ?c3 ?k3 ?a4 ?l4 ?c4 ?k4 ?a5 ?l5 ?c5 ?k5 ?a6 ?l6 ?c6 ?k6 ?a7 ?l7 ?c7 ?k7 ?a8 ?l8 ?c8 ?k8 ?a9 ?l9 ?c9 ?k9 ?a10 ?l10 ?c10 ?k10 ?a11 ?l11 ?c11 ?k11 ?z0 ?z1 ?z2 ?z3 ?z4 ?z5 ?z6 ?z7 ?z8 ?z9 ?z10 ?m0
    (case a0 => k_is); (case l0 => k_is); (case c0 => k_is); (case k0 => k_is); (case a1 => k_is); (case l1 => k_is); (case c1 => k_is); (case k1 => k_is); (case a2 => k_is); (case l2 => k_is); (case c2 => k_is); (case k2 => k_is); (case a3 => k_is); (case l3 => k_is); (case c3 => k_is); (case k3 => k_is); (case a4 => k_is); (case l4 => k_is); (case c4 => k_is); (case k4 => k_is); (case a5 => k_is); (case l5 => k_is); (case c5 => k_is); (case k5 => k_is); (case a6 => k_is); (case l6 => k_is); (case c6 => k_is); (case k6 => k_is); (case a7 => k_is); (case l7 => k_is); (case c7 => k_is); (case k7 => k_is); (case a8 => k_is); (case l8 => k_is); (case c8 => k_is); (case k8 => k_is); (case a9 => k_is); (case l9 => k_is); (case c9 => k_is); (case k9 => k_is); (case a10 => k_is); (case l10 => k_is); (case c10 => k_is); (case k10 => k_is); (case a11 => k_is); (case l11 => k_is); (case c11 => k_is); (case k11 => k_is); (case z0 => k_is); (case z1 => k_is); (case z2 => k_is); (case z3 => k_is); (case z4 => k_is); (case z5 => k_is); (case z6 => k_is); (case z7 => k_is); (case z8 => k_is); (case z9 => k_is); (case z10 => k_is); (case m0 => k_is)

